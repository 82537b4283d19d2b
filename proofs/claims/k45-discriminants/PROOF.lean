import PyProof.Rows.All
import HandS.ForMost
import HandS.ForExc
import HandS.Wide
import HandS.Style
import HandS.TupAny
import HandS.TupMul
import HandS.IsInst
import HandS.Zip
import HandS.Flow
import HandS.TryMany
import HandS.ExcIs
import HandS.Gcd
import HandS.Conv
import HandS.SortInts
import KE.KMathGC
import HandS.Ends
import HandS.Dict
import PySem.Challenge.RW_generaproved_k45_whole_discriminants
set_option Elab.async false
set_option linter.all false
set_option maxRecDepth 100000
/-! DM: data as trees over the layer's heaps; what a piece of code does as a function on trees. -/
namespace DM
open PySem PySem.Spec PyProof.Rows L2

/-- data: trees, and places (loc) for lists that change -/
inductive D where
  | non | bl (b : Bool) | int (i : Int) | str (x : Str) | ty (n : String) | gr (a : Addr)
  | tup (ds : List D) | lst (ds : List D) | kt (ds : List D) | loc (l : Nat) | scr (ns : List Int) | dic
  | exn (c : String) (has : Bool) (f : Str) (d : D)

abbrev Mem := List (Option (List D))
abbrev DSt := List (Option D)

/-- the fixed part: the text's objects, where the classes stand -/
structure Gd where
  K : PySem.W.Frag
  ca : String → Addr

/-- a world: the heap, the places' addresses, what stands there, the exception that is handled -/
structure Wd where
  H : Hp
  pla : List Addr
  M : Mem
  ea : Option (Addr × String × Option Addr)
  /-- lists that are being made (by comprehensions) -/
  hid : List Addr

def Wd.own (W : Wd) (a : Addr) : Prop := a ∈ W.hid ∨ ∃ (l : Nat) (ds : List D), W.M[l]? = some (some ds) ∧ W.pla[l]? = some a

def KTup (G : Gd) (a : Addr) (xs : List V) : Prop :=
  ∃ (o : Obj) (its : Array Value) (n : Nat), G.K.lookup a = some o ∧ o.cls = .type "tuple" ∧ o.data = .seq its n ∧ its.size ≤ sizeLine ∧ Vals xs its.toList

/-- a list that nobody changes, wherever it stands -/
def ScrAt (G : Gd) (W : Wd) (a : Addr) (xs : List V) : Prop := (Rd W.H a (.lst xs) ∧ ¬ W.own a) ∨
  ∃ (o : Obj) (its : Array Value) (n : Nat), G.K.lookup a = some o ∧ o.cls = .type "list" ∧ o.dict = none ∧ o.data = .seq its n ∧ its.size ≤ sizeLine ∧ Vals xs its.toList
mutual
def Rep (G : Gd) (W : Wd) : D → V → Prop
  | .non, v => v = .non
  | .bl b, v => v = .bl b
  | .int i, v => v = .int i
  | .str x, v => v = .str x
  | .ty n, v => v = .ty n
  | .gr a, v => v = .ref a
  | .tup ds, v => ∃ a xs, v = .ref a ∧ W.H a = some (.tup xs) ∧ ¬ W.own a ∧ RepL G W ds xs
  | .lst ds, v => ∃ a xs, v = .ref a ∧ W.H a = some (.lst xs) ∧ ¬ W.own a ∧ RepL G W ds xs
  | .kt ds, v => ∃ a xs, v = .ref a ∧ KTup G a xs ∧ RepL G W ds xs
  | .loc l, v => ∃ a, W.pla[l]? = some a ∧ v = .ref a
  | .scr ns, v => ∃ a, v = .ref a ∧ ScrAt G W a (ns.map V.int)
  | .dic, v => ∃ a, v = .ref a ∧ W.H a = some (.dK []) ∧ ¬ W.own a
  | .exn c has f d, v => ∃ a dd, W.ea = some (a, c, dd) ∧ v = .ref a ∧ ((has = false ∧ dd = none) ∨ (has = true ∧ ∃ b u, dd = some b ∧ W.H b = some (.xd [(f, u)]) ∧ ¬ W.own b ∧ Rep G W d u))
def RepL (G : Gd) (W : Wd) : List D → List V → Prop
  | [], vs => vs = []
  | d :: ds, vs => ∃ v r, vs = v :: r ∧ Rep G W d v ∧ RepL G W ds r
end

structure WOk (G : Gd) (W : Wd) : Prop where
  len : W.pla.length = W.M.length
  inj : ∀ (l l' : Nat) (a : Addr) (ds ds' : List D), W.M[l]? = some (some ds) → W.M[l']? = some (some ds') → W.pla[l]? = some a → W.pla[l']? = some a → l = l'
  there : ∀ (l : Nat) (ds : List D), W.M[l]? = some (some ds) → ∃ a xs, W.pla[l]? = some a ∧ W.H a = some (.lst xs) ∧ RepL G W ds xs
  hidT : ∀ a, a ∈ W.hid → ∃ xs, W.H a = some (.lst xs)
  hidP : ∀ a, a ∈ W.hid → ∀ (l : Nat) (ds : List D), W.M[l]? = some (some ds) → W.pla[l]? ≠ some a
  hidN : W.hid.Nodup

/-- what others hold stays -/
structure Ext0 (W W' : Wd) : Prop where
  pla : ∀ (l : Nat) (a : Addr), W.pla[l]? = some a → W'.pla[l]? = some a
  H : ∀ a o, W.H a = some o → ¬ W.own a → W'.H a = some o ∧ ¬ W'.own a
  ea : W'.ea = W.ea
structure Ext (W W' : Wd) : Prop extends Ext0 W W' where
  hid : W'.hid = W.hid
  hidH : ∀ a, a ∈ W.hid → W'.H a = W.H a

theorem Ext0.refl (W : Wd) : Ext0 W W := ⟨fun _ _ h => h, fun _ _ h n => ⟨h, n⟩, rfl⟩
theorem Ext0.trans {W W1 W2 : Wd} (a : Ext0 W W1) (b : Ext0 W1 W2) : Ext0 W W2 :=
  ⟨fun l x h => b.pla l x (a.pla l x h), fun x o h n => let ⟨h1, n1⟩ := a.H x o h n; b.H x o h1 n1, b.ea.trans a.ea⟩
theorem Ext.refl (W : Wd) : Ext W W := ⟨.refl W, rfl, fun _ _ => rfl⟩
theorem Ext.trans {W W1 W2 : Wd} (a : Ext W W1) (b : Ext W1 W2) : Ext W W2 :=
  ⟨a.toExt0.trans b.toExt0, b.hid.trans a.hid, fun x h => (b.hidH x (a.hid ▸ h)).trans (a.hidH x h)⟩

theorem ScrAt.mono {G : Gd} {W W' : Wd} {a : Addr} {xs : List V} (e : Ext0 W W') (h : ScrAt G W a xs) : ScrAt G W' a xs := by
  rcases h with ⟨h | ⟨o, h⟩, n⟩ | h
  · obtain ⟨h1, n1⟩ := e.H a _ h n
    exact .inl ⟨.inl h1, n1⟩
  · obtain ⟨h1, n1⟩ := e.H a _ h n
    exact .inl ⟨.inr ⟨o, h1⟩, n1⟩
  · exact .inr h
theorem ScrAt.sq {G : Gd} {W : Wd} {a : Addr} {xs : List V} (h : ScrAt G W a xs) : SqL G.K W.H a xs := by
  rcases h with ⟨h, _⟩ | h
  · exact .inl h
  · exact .inr h
mutual
theorem Rep.mono0 {G : Gd} {W W' : Wd} (e : Ext0 W W') : ∀ {d : D} {v : V}, Rep G W d v → Rep G W' d v
  | .non, _, h => h
  | .bl _, _, h => h
  | .int _, _, h => h
  | .str _, _, h => h
  | .ty _, _, h => h
  | .gr _, _, h => h
  | .tup ds, _, h => by
    obtain ⟨a, xs, e1, h1, n1, r⟩ := h
    obtain ⟨h2, n2⟩ := e.H a _ h1 n1
    exact ⟨a, xs, e1, h2, n2, RepL.mono0 e r⟩
  | .lst ds, _, h => by
    obtain ⟨a, xs, e1, h1, n1, r⟩ := h
    obtain ⟨h2, n2⟩ := e.H a _ h1 n1
    exact ⟨a, xs, e1, h2, n2, RepL.mono0 e r⟩
  | .kt ds, _, h => by
    obtain ⟨a, xs, e1, h1, r⟩ := h
    exact ⟨a, xs, e1, h1, RepL.mono0 e r⟩
  | .loc l, _, h => by
    obtain ⟨a, e1, e2⟩ := h
    exact ⟨a, e.pla l a e1, e2⟩
  | .scr ns, _, h => by
    obtain ⟨a, e1, h1⟩ := h
    exact ⟨a, e1, h1.mono e⟩
  | .dic, _, h => by
    obtain ⟨a, e1, h1, n1⟩ := h
    obtain ⟨h2, n2⟩ := e.H a _ h1 n1
    exact ⟨a, e1, h2, n2⟩
  | .exn _ _ _ _, _, h => by
    obtain ⟨a, dd, e1, e2, h⟩ := h
    refine ⟨a, dd, e.ea.trans e1, e2, h.imp id fun ⟨h1, b, u, h2, h3, h4, h5⟩ => ?_⟩
    obtain ⟨g1, g2⟩ := e.H b _ h3 h4
    exact ⟨h1, b, u, h2, g1, g2, Rep.mono0 e h5⟩
theorem RepL.mono0 {G : Gd} {W W' : Wd} (e : Ext0 W W') : ∀ {ds : List D} {vs : List V}, RepL G W ds vs → RepL G W' ds vs
  | [], _, h => h
  | _ :: _, _, h => by
    obtain ⟨v, r, e1, h1, h2⟩ := h
    exact ⟨v, r, e1, Rep.mono0 e h1, RepL.mono0 e h2⟩
end
theorem Rep.mono {G : Gd} {W W' : Wd} {d : D} {v : V} (e : Ext W W') (h : Rep G W d v) : Rep G W' d v := h.mono0 e.toExt0
theorem RepL.mono {G : Gd} {W W' : Wd} {d : List D} {v : List V} (e : Ext W W') (h : RepL G W d v) : RepL G W' d v := RepL.mono0 e.toExt0 h

section
variable {G : Gd} {W W' : Wd}
theorem RepL.length : ∀ {ds : List D} {vs : List V}, RepL G W ds vs → ds.length = vs.length
  | [], _, h => by
    have h : _ = [] := h
    rw [h]
    rfl
  | _ :: _, _, h => by
    obtain ⟨v, r, rfl, _, h2⟩ := h
    rw [List.length_cons, List.length_cons, RepL.length h2]
theorem RepL.get : ∀ {ds : List D} {vs : List V} {i : Nat} {d : D}, RepL G W ds vs → ds[i]? = some d → ∃ v, vs[i]? = some v ∧ Rep G W d v
  | [], _, _, _, _, e => by simp at e
  | _ :: _, _, 0, _, h, e => by
    obtain ⟨v, r, rfl, h1, _⟩ := h
    simp at e
    subst e
    exact ⟨v, rfl, h1⟩
  | _ :: _, _, i + 1, _, h, e => by
    obtain ⟨v, r, rfl, _, h2⟩ := h
    simp at e
    obtain ⟨u, e1, e2⟩ := RepL.get h2 e
    exact ⟨u, by simpa using e1, e2⟩
theorem RepL.getV : ∀ {ds : List D} {vs : List V} {i : Nat} {v : V}, RepL G W ds vs → vs[i]? = some v → ∃ d, ds[i]? = some d ∧ Rep G W d v
  | [], _, _, _, h, e => by
    have h : _ = [] := h
    rw [h] at e
    simp at e
  | _ :: _, _, 0, _, h, e => by
    obtain ⟨v, r, rfl, h1, _⟩ := h
    simp at e
    subst e
    exact ⟨_, rfl, h1⟩
  | _ :: _, _, i + 1, _, h, e => by
    obtain ⟨v, r, rfl, _, h2⟩ := h
    simp at e
    obtain ⟨u, e1, e2⟩ := RepL.getV h2 e
    exact ⟨u, by simpa using e1, e2⟩
theorem RepL.append : ∀ {ds es : List D} {vs us : List V}, RepL G W ds vs → RepL G W es us → RepL G W (ds ++ es) (vs ++ us)
  | [], _, _, _, h, k => by
    have h : _ = [] := h
    rw [h]
    exact k
  | _ :: _, _, _, _, h, k => by
    obtain ⟨v, r, rfl, h1, h2⟩ := h
    exact ⟨v, _, rfl, h1, RepL.append h2 k⟩
theorem RepL.set : ∀ {ds : List D} {vs : List V} {d : D} {v : V} (i : Nat), RepL G W ds vs → Rep G W d v → RepL G W (ds.set i d) (vs.set i v)
  | [], _, _, _, _, h, _ => by
    have h : _ = [] := h
    rw [h]
    rfl
  | _ :: _, _, _, _, 0, h, k => by
    obtain ⟨v, r, rfl, h1, h2⟩ := h
    exact ⟨_, r, rfl, k, h2⟩
  | _ :: _, _, _, _, i + 1, h, k => by
    obtain ⟨v, r, rfl, h1, h2⟩ := h
    exact ⟨v, _, rfl, h1, RepL.set i h2 k⟩
theorem RepL.take : ∀ {ds : List D} {vs : List V} (n : Nat), RepL G W ds vs → RepL G W (ds.take n) (vs.take n)
  | _, _, 0, _ => by
    rw [List.take_zero, List.take_zero]
    rfl
  | [], _, n + 1, h => by
    have h : _ = [] := h
    rw [h]
    rfl
  | _ :: _, _, n + 1, h => by
    obtain ⟨v, r, rfl, h1, h2⟩ := h
    exact ⟨v, _, rfl, h1, RepL.take n h2⟩
theorem RepL.drop : ∀ {ds : List D} {vs : List V} (n : Nat), RepL G W ds vs → RepL G W (ds.drop n) (vs.drop n)
  | _, _, 0, h => h
  | [], _, n + 1, h => by
    have h : _ = [] := h
    rw [h]
    rfl
  | _ :: _, _, n + 1, h => by
    obtain ⟨v, r, rfl, h1, h2⟩ := h
    exact RepL.drop n h2
theorem RepL.reverse : ∀ {ds : List D} {vs : List V}, RepL G W ds vs → RepL G W ds.reverse vs.reverse
  | [], _, h => by
    have h : _ = [] := h
    rw [h]
    rfl
  | _ :: _, _, h => by
    obtain ⟨v, r, rfl, h1, h2⟩ := h
    rw [List.reverse_cons, List.reverse_cons]
    exact RepL.append (RepL.reverse h2) ⟨v, [], rfl, h1, rfl⟩
theorem RepL.eraseIdx : ∀ {ds : List D} {vs : List V} (i : Nat), RepL G W ds vs → RepL G W (ds.eraseIdx i) (vs.eraseIdx i)
  | [], _, _, h => by
    have h : _ = [] := h
    rw [h]
    rfl
  | _ :: _, _, 0, h => by
    obtain ⟨v, r, rfl, h1, h2⟩ := h
    exact h2
  | _ :: _, _, i + 1, h => by
    obtain ⟨v, r, rfl, h1, h2⟩ := h
    exact ⟨v, _, rfl, h1, RepL.eraseIdx i h2⟩
theorem RepL.ints : ∀ {ns : List Int} {vs : List V}, RepL G W (ns.map D.int) vs → vs = ns.map V.int
  | [], _, h => h
  | n :: ns, _, h => by
    obtain ⟨v, r, rfl, h1, h2⟩ := h
    have h1 : v = .int n := h1
    rw [h1, RepL.ints h2]
    rfl
theorem RepL.of_ints : ∀ (ns : List Int), RepL G W (ns.map D.int) (ns.map V.int)
  | [] => rfl
  | n :: ns => ⟨_, _, rfl, rfl, RepL.of_ints ns⟩
theorem RepL.of_bls : ∀ (ns : List Bool), RepL G W (ns.map D.bl) (ns.map V.bl)
  | [] => rfl
  | n :: ns => ⟨_, _, rfl, rfl, RepL.of_bls ns⟩
theorem RepL.bls : ∀ {ns : List Bool} {vs : List V}, RepL G W (ns.map D.bl) vs → vs = ns.map V.bl
  | [], _, h => h
  | n :: ns, _, h => by
    obtain ⟨v, r, rfl, h1, h2⟩ := h
    have h1 : v = .bl n := h1
    rw [h1, RepL.bls h2]
    rfl

theorem WOk.own_lst (k : WOk G W) {a : Addr} (h : W.own a) : ∃ xs, W.H a = some (.lst xs) := by
  rcases h with h | ⟨l, ds, h1, h2⟩
  · exact k.hidT a h
  obtain ⟨a', xs, h3, h4, _⟩ := k.there l ds h1
  rw [h2] at h3
  cases h3
  exact ⟨xs, h4⟩
theorem WOk.not_own (k : WOk G W) {a : Addr} (h : W.H a = none) : ¬ W.own a := fun o => by
  obtain ⟨xs, e⟩ := k.own_lst o
  rw [h] at e
  cases e

/-- a new thing that no place owns -/
abbrev Wd.new (W : Wd) (p : Addr) (o : HO) : Wd := { W with H := upd W.H p o }
theorem ext_new {p : Addr} {o : HO} (k : WOk G W) (hp : W.H p = none) : Ext W (W.new p o) :=
  ⟨⟨fun _ _ h => h, fun a u h n => ⟨by
    show upd W.H p o a = some u
    rw [upd_ne (ne_of_none h hp)]
    exact h, n⟩, rfl⟩, rfl, fun a h => by
    obtain ⟨xs, e⟩ := k.hidT a h
    exact upd_ne (ne_of_none e hp)⟩
theorem ok_new {p : Addr} {o : HO} (k : WOk G W) (hp : W.H p = none) : WOk G (W.new p o) := by
  refine ⟨k.len, k.inj, fun l ds h => ?_, fun a h => ?_, k.hidP, k.hidN⟩
  · obtain ⟨a, xs, h1, h2, h3⟩ := k.there l ds h
    refine ⟨a, xs, h1, ?_, RepL.mono (ext_new k hp) h3⟩
    show upd W.H p o a = some _
    rw [upd_ne (ne_of_none h2 hp)]
    exact h2
  · obtain ⟨xs, e⟩ := k.hidT a h
    exact ⟨xs, (upd_ne (ne_of_none e hp)).trans e⟩
theorem own_new {p : Addr} {o : HO} (k : WOk G W) (hp : W.H p = none) : ¬ (W.new p o).own p := fun h => k.not_own hp h

theorem alloc_at {α : Type} {l : List α} {x y : α} {i : Nat} (h : (l ++ [x])[i]? = some y) : (i < l.length ∧ l[i]? = some y) ∨ (i = l.length ∧ y = x) := by
  by_cases hl : i < l.length
  · rw [List.getElem?_append_left hl] at h
    exact .inl ⟨hl, h⟩
  · rw [List.getElem?_append_right (by omega)] at h
    rcases Nat.eq_zero_or_pos (i - l.length) with z | z
    · rw [z] at h
      cases h
      exact .inr ⟨by omega, rfl⟩
    · rw [List.getElem?_eq_none (by show 1 ≤ _; omega)] at h
      cases h
/-- a new place -/
abbrev Wd.alloc (W : Wd) (p : Addr) (xs : List V) (ds : List D) : Wd := { H := upd W.H p (.lst xs), pla := W.pla ++ [p], M := W.M ++ [some ds], ea := W.ea, hid := W.hid }
theorem own_alloc {p : Addr} {xs : List V} {ds : List D} (k : WOk G W) {a : Addr} (h : (W.alloc p xs ds).own a) : W.own a ∨ a = p := by
  rcases h with h | ⟨l, es, h1, h2⟩
  · exact .inl (.inl h)
  have kl := k.len
  rcases alloc_at (show (W.M ++ [some ds])[l]? = some (some es) from h1) with ⟨z, y⟩ | ⟨z, y⟩ <;> rcases alloc_at (show (W.pla ++ [p])[l]? = some a from h2) with ⟨u, v⟩ | ⟨u, v⟩ <;> first
    | exact .inl (.inr ⟨l, es, y, v⟩)
    | exact .inr v
    | omega
theorem ext_alloc {p : Addr} {xs : List V} {ds : List D} (k : WOk G W) (hp : W.H p = none) : Ext W (W.alloc p xs ds) := by
  refine ⟨⟨fun l a h => ?_, fun a o h n => ⟨?_, fun q => ?_⟩, rfl⟩, rfl, fun a h => ?_⟩
  · show (W.pla ++ [p])[l]? = some a
    rw [List.getElem?_append_left (List.getElem?_eq_some_iff.mp h).1]
    exact h
  · show upd W.H p _ a = some o
    rw [upd_ne (ne_of_none h hp)]
    exact h
  · rcases own_alloc k q with q | q
    · exact n q
    · rw [q, hp] at h
      cases h
  · obtain ⟨ys, e⟩ := k.hidT a h
    exact upd_ne (ne_of_none e hp)
theorem ok_alloc {p : Addr} {xs : List V} {ds : List D} (k : WOk G W) (hp : W.H p = none) (r : RepL G W ds xs) : WOk G (W.alloc p xs ds) := by
  have e := ext_alloc (xs := xs) (ds := ds) k hp
  have kl := k.len
  have used : ∀ l a, W.pla[l]? = some a → a = p → ∀ ds, W.M[l]? = some (some ds) → False := fun l a h e ds hm => by
    obtain ⟨b, ys, h1, h2, _⟩ := k.there l ds hm
    rw [h] at h1
    cases h1
    rw [e, hp] at h2
    cases h2
  refine ⟨by simp [k.len], fun l l' a es es' m m' h h' => ?_, fun l es h => ?_, fun a h => ?_, fun a ha l es m h => ?_, k.hidN⟩
  · rcases alloc_at (show (W.M ++ [some ds])[l]? = some (some es) from m) with ⟨z, y⟩ | ⟨z, y⟩ <;> rcases alloc_at (show (W.M ++ [some ds])[l']? = some (some es') from m') with ⟨z', y'⟩ | ⟨z', y'⟩ <;>
      rcases alloc_at (show (W.pla ++ [p])[l]? = some a from h) with ⟨u, v⟩ | ⟨u, v⟩ <;> rcases alloc_at (show (W.pla ++ [p])[l']? = some a from h') with ⟨u', v'⟩ | ⟨u', v'⟩ <;> first
      | exact k.inj l l' a es es' y y' v v'
      | exact (used _ _ v v' _ y).elim
      | exact (used _ _ v' v _ y').elim
      | omega
  · rcases alloc_at (show (W.M ++ [some ds])[l]? = some (some es) from h) with ⟨z, y⟩ | ⟨z, y⟩
    · obtain ⟨a, ys, h1, h2, h3⟩ := k.there l es y
      exact ⟨a, ys, e.pla l a h1, by
        show upd W.H p _ a = _
        rw [upd_ne (ne_of_none h2 hp)]
        exact h2, RepL.mono e h3⟩
    · cases y
      refine ⟨p, xs, ?_, upd_same, RepL.mono e r⟩
      show (W.pla ++ [p])[l]? = some p
      rw [z, ← k.len]
      simp
  · obtain ⟨ys, q⟩ := k.hidT a h
    exact ⟨ys, (upd_ne (ne_of_none q hp)).trans q⟩
  · rcases alloc_at (show (W.M ++ [some ds])[l]? = some (some es) from m) with ⟨z, y⟩ | ⟨z, y⟩ <;> rcases alloc_at (show (W.pla ++ [p])[l]? = some a from h) with ⟨u, v⟩ | ⟨u, v⟩ <;> first
      | exact k.hidP a ha l es y v
      | (obtain ⟨ys, q⟩ := k.hidT a ha; rw [v, hp] at q; cases q)
      | omega

/-- what stands at a place changes -/
abbrev Wd.put (W : Wd) (l : Nat) (a : Addr) (xs : List V) (ds : List D) : Wd := { W with H := upd W.H a (.lst xs), M := W.M.set l (some ds) }
theorem put_back {l : Nat} {ds es : List D} {M : Mem} (hm : M[l]? = some (some es)) {i : Nat} {fs : List D} (h : (M.set l (some ds))[i]? = some (some fs)) : ∃ gs, M[i]? = some (some gs) := by
  by_cases z : l = i
  · subst z
    exact ⟨es, hm⟩
  · rw [List.getElem?_set_ne z] at h
    exact ⟨fs, h⟩
theorem own_put {l : Nat} {a : Addr} {xs : List V} {ds es : List D} (hm : W.M[l]? = some (some es)) (hp : W.pla[l]? = some a) {b : Addr} : (W.put l a xs ds).own b ↔ W.own b := by
  have hl : l < W.M.length := (List.getElem?_eq_some_iff.mp hm).1
  constructor
  · rintro (h | ⟨i, fs, h1, h2⟩)
    · exact .inl h
    obtain ⟨gs, h3⟩ := put_back hm (show (W.M.set l (some ds))[i]? = some (some fs) from h1)
    exact .inr ⟨i, gs, h3, h2⟩
  · rintro (h | ⟨i, fs, h1, h2⟩)
    · exact .inl h
    by_cases e : l = i
    · subst e
      exact .inr ⟨l, ds, List.getElem?_set_self hl, h2⟩
    · exact .inr ⟨i, fs, by
        show (W.M.set l (some ds))[i]? = _
        rw [List.getElem?_set_ne e]
        exact h1, h2⟩
theorem ext_put {l : Nat} {a : Addr} {xs : List V} {ds es : List D} (k : WOk G W) (hm : W.M[l]? = some (some es)) (hp : W.pla[l]? = some a) : Ext W (W.put l a xs ds) := by
  refine ⟨⟨fun _ _ h => h, fun b o h n => ⟨?_, fun q => n ((own_put hm hp).mp q)⟩, rfl⟩, rfl, fun b h => ?_⟩
  · have : b ≠ a := fun e => n (by
      rw [e]
      exact .inr ⟨l, es, hm, hp⟩)
    show upd W.H a _ b = _
    rw [upd_ne this]
    exact h
  · exact upd_ne fun e => k.hidP b h l es hm (e ▸ hp)
theorem ok_put {l : Nat} {a : Addr} {xs : List V} {ds es : List D} (k : WOk G W) (hm : W.M[l]? = some (some es)) (hp : W.pla[l]? = some a) (r : RepL G W ds xs) : WOk G (W.put l a xs ds) := by
  have e := ext_put (xs := xs) (ds := ds) k hm hp
  have hl : l < W.M.length := (List.getElem?_eq_some_iff.mp hm).1
  refine ⟨by simp [k.len], fun i i' b fs fs' m m' h h' => ?_, fun i fs h => ?_, fun b h => ?_, fun b hb i fs m h => ?_, k.hidN⟩
  · obtain ⟨_, m⟩ := put_back hm m
    obtain ⟨_, m'⟩ := put_back hm m'
    exact k.inj i i' b _ _ m m' h h'
  · have h : (W.M.set l (some ds))[i]? = some (some fs) := h
    by_cases z : l = i
    · subst z
      rw [List.getElem?_set_self hl] at h
      cases h
      exact ⟨a, xs, hp, upd_same, RepL.mono e r⟩
    · rw [List.getElem?_set_ne z] at h
      obtain ⟨b, ys, h1, h2, h3⟩ := k.there i fs h
      refine ⟨b, ys, h1, ?_, RepL.mono e h3⟩
      have : b ≠ a := fun q => z (k.inj l i a es fs hm h hp (q ▸ h1))
      show upd W.H a _ b = _
      rw [upd_ne this]
      exact h2
  · obtain ⟨ys, q⟩ := k.hidT b h
    have : b ≠ a := fun e => k.hidP b h l es hm (e ▸ hp)
    exact ⟨ys, (upd_ne this).trans q⟩
  · obtain ⟨_, m⟩ := put_back hm m
    exact k.hidP b hb i _ m h
end
end DM

/-! DM: what code does on data; the rules of expressions and statements. -/
namespace DM
open PySem PySem.Spec PyProof.Rows L2

inductive R (α : Type) where
  | ok (a : α) (M : Mem) | exc (x : D) (M : Mem) | bad
def R.bind {α β : Type} (r : R α) (k : α → Mem → R β) : R β := match r with
  | .ok a M => k a M
  | .exc x M => .exc x M
  | .bad => .bad
@[simp] theorem R.bind_ok {α β : Type} (a : α) (M : Mem) (k : α → Mem → R β) : (R.ok a M).bind k = k a M := rfl
@[simp] theorem R.bind_exc {α β : Type} (x : D) (M : Mem) (k : α → Mem → R β) : (R.exc (α := α) x M).bind k = .exc x M := rfl
@[simp] theorem R.bind_bad {α β : Type} (k : α → Mem → R β) : (R.bad (α := α)).bind k = .bad := rfl
abbrev EM := DSt → Mem → R D
abbrev TM := DSt → Mem → R Bool
abbrev AM := DSt → Mem → R (List D)
inductive RS where
  | nx (σ : DSt) (M : Mem) | rt (d : D) (M : Mem) | bk (σ : DSt) (M : Mem) | ct (σ : DSt) (M : Mem) | exc (x : D) (σ : DSt) (M : Mem) | bad
abbrev SM := DSt → Mem → RS
abbrev FM := List D → Mem → R D

def RelS (G : Gd) (W : Wd) (τ : DSt) (σ : L2.St) : Prop := τ.length = σ.length ∧ ∀ (i : Nat) (d : D), τ[i]? = some (some d) → ∃ v, σ[i]? = some (some v) ∧ Rep G W d v
def RepX (G : Gd) (W : Wd) (x : D) (cls : Value) (dd : Option Addr) : Prop := match x with
  | .exn c has f d => cls = .ref (G.ca c) ∧ if has = true then ∃ a v, dd = some a ∧ W.H a = some (.xd [(f, v)]) ∧ ¬ W.own a ∧ Rep G W d v else dd = none
  | _ => False
theorem RelS.mono {G : Gd} {W W' : Wd} {τ : DSt} {σ : L2.St} (e : Ext W W') (h : RelS G W τ σ) : RelS G W' τ σ :=
  ⟨h.1, fun i d q => let ⟨v, h1, h2⟩ := h.2 i d q; ⟨v, h1, h2.mono e⟩⟩
theorem RelS.mono0 {G : Gd} {W W' : Wd} {τ : DSt} {σ : L2.St} (e : Ext0 W W') (h : RelS G W τ σ) : RelS G W' τ σ :=
  ⟨h.1, fun i d q => let ⟨v, h1, h2⟩ := h.2 i d q; ⟨v, h1, h2.mono0 e⟩⟩
theorem RepX.mono {G : Gd} {W W' : Wd} {x : D} {cls : Value} {dd : Option Addr} (e : Ext W W') (h : RepX G W x cls dd) : RepX G W' x cls dd := by
  cases x with
  | exn c has f d =>
    obtain ⟨h1, h2⟩ := h
    refine ⟨h1, ?_⟩
    cases has with
    | false => exact h2
    | true =>
      obtain ⟨a, v, e1, e2, e3, e4⟩ := h2
      obtain ⟨f1, f2⟩ := e.H a _ e2 e3
      exact ⟨a, v, e1, f1, f2, e4.mono e⟩
  | _ => exact h.elim
theorem RelS.set {G : Gd} {W : Wd} {τ : DSt} {σ : L2.St} {d : D} {v : V} (h : RelS G W τ σ) (i : Nat) (r : Rep G W d v) : RelS G W (τ.set i (some d)) (σ.set i (some v)) := by
  refine ⟨by simp [h.1], fun j e q => ?_⟩
  by_cases hj : i = j
  · subst hj
    by_cases hl : i < τ.length
    · rw [List.getElem?_set_self hl] at q
      cases q
      exact ⟨v, List.getElem?_set_self (by rw [← h.1]; exact hl), r⟩
    · rw [List.getElem?_eq_none (by simpa using hl)] at q
      cases q
  · rw [List.getElem?_set_ne hj] at q
    rw [List.getElem?_set_ne hj]
    exact h.2 j e q

/-- what is wanted behind a piece of code that gives r -/
def pR (G : Gd) (Wx : WX) {α β : Type} (rel : Wd → α → β → Prop) (W : Wd) (σ : L2.St) (r : R α) (Q : β → Hp → Prop) : Prop := match r with
  | .ok a M => ∀ b W', W'.M = M → WOk G W' → Ext W W' → rel W' a b → Q b W'.H
  | .exc x M => ∀ cls dd W', W'.M = M → WOk G W' → Ext W W' → RepX G W' x cls dd → Wx cls dd σ W'.H
  | .bad => False
def tR (G : Gd) (Wx : WX) (ea : Option (Addr × String × Option Addr)) {α β : Type} (rel : Wd → α → β → Prop) (m : DSt → Mem → R α) : L2.St → Hp → (β → Hp → Prop) → Prop := fun σ H Q =>
  ∃ τ W, W.H = H ∧ W.ea = ea ∧ WOk G W ∧ RelS G W τ σ ∧ pR G Wx rel W σ (m τ W.M) Q
abbrev rT : Wd → Bool → Bool → Prop := fun _ a b => a = b

section
variable {G : Gd} {Wx : WX} {α β γ δ : Type} {rel : Wd → α → β → Prop} {rel2 : Wd → γ → δ → Prop} {W W' : Wd} {σ : L2.St} {τ : DSt}
theorem pR.ext {r : R α} {Q : β → Hp → Prop} (e : Ext W W') (h : pR G Wx rel W σ r Q) : pR G Wx rel W' σ r Q := by
  cases r with
  | ok a M => exact fun b W2 m k e2 q => h b W2 m k (e.trans e2) q
  | exc x M => exact fun c d W2 m k e2 q => h c d W2 m k (e.trans e2) q
  | bad => exact h
/-- the next piece -/
theorem step {m1 : DSt → Mem → R α} {k : α → Mem → R γ} {Q : δ → Hp → Prop} {Q1 : β → Hp → Prop} {ea : Option (Addr × String × Option Addr)} (he : W.ea = ea) (ok : WOk G W) (rs : RelS G W τ σ) (hp : pR G Wx rel2 W σ ((m1 τ W.M).bind k) Q)
    (h : ∀ a b W1, WOk G W1 → Ext W W1 → rel W1 a b → pR G Wx rel2 W1 σ (k a W1.M) Q → Q1 b W1.H) : tR G Wx ea rel m1 σ W.H Q1 := by
  refine ⟨τ, W, rfl, he, ok, rs, ?_⟩
  cases e : m1 τ W.M with
  | ok a M =>
    intro b W1 hm k1 e1 r1
    rw [e] at hp
    subst hm
    exact h a b W1 k1 e1 r1 (hp.ext e1)
  | exc x M =>
    rw [e] at hp
    exact hp
  | bad =>
    rw [e] at hp
    exact hp
end

/-- a context: what is wanted of exceptions, the exception that is handled -/
structure DC (G : Gd) (X : Cx) where
  W : WX
  ea : Option (Addr × String × Option Addr)
  hK : X.K = G.K
  tk : Takes X W
section
variable {G : Gd} {X : Cx}
abbrev tE (Γ : DC G X) (m : EM) : TE := tR G Γ.W Γ.ea (Rep G) m
abbrev tT (Γ : DC G X) (m : TM) : TT := tR G Γ.W Γ.ea rT m
abbrev tA (Γ : DC G X) (m : AM) : TA := tR G Γ.W Γ.ea (RepL G) m
abbrev DE (Γ : DC G X) (e : Expr) (m : EM) : Prop := PE X e (tE Γ m)
abbrev DT (Γ : DC G X) (e : Expr) (m : TM) : Prop := PT X e (tT Γ m)
abbrev DW (Γ : DC G X) (e : Expr) (m : TM) : Prop := PW X e (tT Γ m)
abbrev DA (Γ : DC G X) (es : List Expr) (m : AM) : Prop := PA X es (tA Γ m)
end
theorem pe_imp {X : Cx} {e : Expr} {t t' : TE} (h : PE X e t) (i : ∀ σ H Q, t' σ H Q → t σ H Q) : PE X e t' := ⟨fun pins s σ H Q I q => h.run pins s σ H Q I (i _ _ _ q)⟩
theorem pt_imp {X : Cx} {e : Expr} {t t' : TT} (h : PT X e t) (i : ∀ σ H Q, t' σ H Q → t σ H Q) : PT X e t' := ⟨fun pins s σ H Q I q => h.run pins s σ H Q I (i _ _ _ q)⟩
theorem pw_imp {X : Cx} {e : Expr} {t t' : TT} (h : PW X e t) (i : ∀ σ H Q, t' σ H Q → t σ H Q) : PW X e t' := ⟨fun wh pins s σ H Q I q => h.run wh pins s σ H Q I (i _ _ _ q)⟩
theorem pa_imp {X : Cx} {e : List Expr} {t t' : TA} (h : PA X e t) (i : ∀ σ H Q, t' σ H Q → t σ H Q) : PA X e t' := ⟨fun p pins s σ H Q I q => h.run p pins s σ H Q I (i _ _ _ q)⟩
theorem ps_imp {X : Cx} {e : Stmt} {t t' : TS} (h : PS X e t) (i : ∀ D σ H, t' D σ H → t D σ H) : PS X e t' := ⟨fun pins s σ H D I q => h.run pins s σ H D I (i _ _ _ q)⟩
theorem pss_imp {X : Cx} {e : List Stmt} {t t' : TS} (h : PSs X e t) (i : ∀ D σ H, t' D σ H → t D σ H) : PSs X e t' := ⟨fun pins s σ H D I q => h.run pins s σ H D I (i _ _ _ q)⟩

/-- what an operation gives: a value, a new list, a place's new items and a value -/
inductive ON where
  | v (d : D) | l (ds : List D) | p (l : Nat) (ds : List D) (d : D)
def fin (own : Bool) (o : Option ON) (M : Mem) : R D := match o with
  | none => .bad
  | some (.v d) => .ok d M
  | some (.l ds) => if own then .ok (.loc M.length) (M ++ [some ds]) else .ok (.lst ds) M
  | some (.p l ds d) => .ok d (M.set l (some ds))
def pO (G : Gd) (W : Wd) (o : Option ON) (Q : VK) : Prop := match o with
  | none => False
  | some (.v d) => ∀ v W', W'.M = W.M → WOk G W' → Ext W W' → Rep G W' d v → Q v W'.H
  | some (.l ds) => ∀ xs p, RepL G W ds xs → W.H p = none → Q (.ref p) (upd W.H p (.lst xs))
  | some (.p l ds d) => ∀ (a : Addr) xs v (es : List D), W.M[l]? = some (some es) → W.pla[l]? = some a → RepL G W ds xs → Rep G W d v → Q v (upd W.H a (.lst xs))
section
variable {G : Gd} {Wx : WX} {W : Wd} {σ : L2.St}
theorem po_of {own : Bool} {o : Option ON} {Q : VK} (k : WOk G W) (h : pR G Wx (Rep G) W σ (fin own o W.M) Q) : pO G W o Q := by
  cases o with
  | none => exact h
  | some o =>
    cases o with
    | v d => exact fun v W' m k' e r => h v W' m k' e r
    | l ds =>
      intro xs p r hp
      cases own with
      | false => exact h (.ref p) (W.new p (.lst xs)) rfl (ok_new k hp) (ext_new k hp) ⟨p, xs, rfl, upd_same, own_new k hp, r.mono (ext_new k hp)⟩
      | true =>
        refine h (.ref p) (W.alloc p xs ds) rfl (ok_alloc k hp r) (ext_alloc k hp) ⟨p, ?_, rfl⟩
        show (W.pla ++ [p])[W.M.length]? = some p
        rw [← k.len]
        simp
    | p l ds d =>
      intro a xs v es hm hp r rd
      exact h v (W.put l a xs ds) rfl (ok_put k hm hp r) (ext_put k hm hp) (rd.mono (ext_put k hm hp))
end

/-! ### names, constants -/
@[simp] def eVar (i : Nat) : EM := fun τ M => match τ[i]? with
  | some (some d) => .ok d M
  | _ => .bad
@[simp] def eC (d : D) : EM := fun _ M => .ok d M
section
variable {G : Gd} {X : Cx} {Γ : DC G X} {pos : Pos}
theorem de_var (i : Nat) {x : Str} (hN : X.N[i]? = some x := by rfl) (hv : Vis X.env.scope x := by first | exact Or.inl rfl | exact Or.inr (Or.inl rfl) | exact Or.inr (Or.inr rfl)) (hd : (x == ("__debug__" : Str)) = false := by decide)
    (hcd : (x == ("__classdict__" : Str)) = false := by decide) : DE Γ (.Name x pos) (eVar i) := pe_imp (pe_var hN hv hd hcd) fun σ H Q q => by
  obtain ⟨τ, W, rfl, _, ok, rs, h⟩ := q
  unfold eVar at h
  split at h
  · rename_i d e
    obtain ⟨v, h1, h2⟩ := rs.2 i d e
    exact ⟨v, h1, h v W rfl ok (Ext.refl W) h2⟩
  · exact h.elim
theorem de_const {e : Expr} {v : V} {d : D} (h : PE X e (tC v)) (r : ∀ W, Rep G W d v) : DE Γ e (eC d) := pe_imp h fun σ H Q q => by
  obtain ⟨τ, W, rfl, _, ok, rs, h⟩ := q
  exact h v W rfl ok (Ext.refl W) (r W)
theorem de_int {i : Int} {j : Nat} : DE Γ (.Constant (.int i) j pos) (eC (.int i)) := de_const pe_int fun _ => rfl
theorem de_bl {b : Bool} {j : Nat} : DE Γ (.Constant (.bool b) j pos) (eC (.bl b)) := de_const pe_bl fun _ => rfl
theorem de_non {j : Nat} : DE Γ (.Constant .none j pos) (eC .non) := de_const pe_non fun _ => rfl
theorem de_str {x : Str} {j : Nat} : DE Γ (.Constant (.str x) j pos) (eC (.str x)) := de_const pe_str fun _ => rfl

/-! ### operations -/
abbrev O2 := D → D → Mem → Option ON
abbrev O1 := D → Mem → Option ON
abbrev OA := List D → Mem → Option ON
@[simp] def eBin (own : Bool) (g : O2) (a b : EM) : EM := fun τ M => (a τ M).bind fun x M1 => (b τ M1).bind fun y M2 => fin own (g x y M2) M2
@[simp] def eUn (own : Bool) (g : O1) (a : EM) : EM := fun τ M => (a τ M).bind fun x M1 => fin own (g x M1) M1
def Real2 (G : Gd) (g : O2) (r : R2) : Prop := ∀ (W : Wd) (dx dy : D) (x y : V) (Q : VK), WOk G W → Rep G W dx x → Rep G W dy y → pO G W (g dx dy W.M) Q → r x y W.H Q
def Real1 (G : Gd) (g : O1) (r : V → Hp → VK → Prop) : Prop := ∀ (W : Wd) (dx : D) (x : V) (Q : VK), WOk G W → Rep G W dx x → pO G W (g dx W.M) Q → r x W.H Q
def RealA (G : Gd) (g : OA) (r : List V → Hp → VK → Prop) : Prop := ∀ (W : Wd) (ds : List D) (xs : List V) (Q : VK), WOk G W → RepL G W ds xs → pO G W (g ds W.M) Q → r xs W.H Q
variable {a b c : Expr} {ma mb mc : EM}
theorem tOp_of {own : Bool} {g : O2} {r : R2} (hr : Real2 G g r) {σ : L2.St} {H : Hp} {Q : VK} (q : tE Γ (eBin own g ma mb) σ H Q) : tOp r (tE Γ ma) (tE Γ mb) σ H Q := by
  obtain ⟨τ, W, rfl, he, ok, rs, h⟩ := q
  refine step he ok rs h fun dx x W1 k1 e1 r1 h1 => ?_
  refine step (e1.ea.trans he) k1 (rs.mono e1) h1 fun dy y W2 k2 e2 r2 h2 => ?_
  exact hr W2 dx dy x y Q k2 (r1.mono e2) r2 (po_of k2 h2)
theorem de_bin (own : Bool) {op : Operator} {g : O2} {r : R2} (hr : Real2 G g r) (ho : OpR X (binaryOp op) r) (ha : DE Γ a ma) (hb : DE Γ b mb) : DE Γ (.BinOp a op b pos) (eBin own g ma mb) :=
  pe_imp (pe_op ho ha hb) fun _ _ _ q => tOp_of hr q
theorem de_un (own : Bool) {op : UnaryOp} {g : O1} {r : V → Hp → VK → Prop} (hr : Real1 G g r) (ho : UnR X (unaryOp op) r) (ha : DE Γ a ma) : DE Γ (.UnaryOp op a pos) (eUn own g ma) := pe_imp (pe_un ho ha) fun σ H Q q => by
  obtain ⟨τ, W, rfl, he, ok, rs, h⟩ := q
  show tE Γ ma σ W.H _
  exact step he ok rs h fun dx x W1 k1 e1 r1 h1 => hr W1 dx x Q k1 r1 (po_of k1 h1)
theorem de_cmp {op : CmpOp} {g : O2} {r : R2} (hr : Real2 G g r) (ho : OpR X (compareOp op) r) (ha : DE Γ a ma) (hb : DE Γ b mb) (hm : behindInMarks op b = false := by first | exact nomark _ | rfl) :
    DE Γ (.Compare a [op] [b] pos) (eBin false g ma mb) := pe_imp (pe_cmpR ho ha hb hm) fun _ _ _ q => tOp_of hr q
/-- a test from a value that is a bool -/
@[simp] def asB (m : EM) : TM := fun τ M => (m τ M).bind fun x M1 => match x with
  | .bl k => .ok k M1
  | _ => .bad
theorem dt_of {e : Expr} {m : EM} {t : TE} (h : PT X e (tTest t)) (i : ∀ σ H Q, tE Γ m σ H Q → t σ H Q) : DT Γ e (asB m) := pt_imp h fun σ H Q q => by
  refine i σ H _ ?_
  obtain ⟨τ, W, rfl, he, ok, rs, h⟩ := q
  refine step he ok rs h fun dx x W1 k1 e1 r1 h1 => ?_
  cases dx with
  | bl k => exact ⟨k, r1, h1 k W1 rfl k1 (Ext.refl W1) rfl⟩
  | _ => exact h1.elim
theorem dt_cmp {op : CmpOp} {g : O2} {r : R2} (hr : Real2 G g r) (ho : OpR X (compareOp op) r) (ha : DE Γ a ma) (hb : DE Γ b mb) (hm : behindInMarks op b = false := by first | exact nomark _ | rfl) :
    DT Γ (.Compare a [op] [b] pos) (asB (eBin false g ma mb)) := dt_of (pt_cmpR ho ha hb hm) fun _ _ _ q => tOp_of hr q
/-- a < b < c -/
@[simp] def eChain (g g' : O2) (a b c : EM) : EM := fun τ M => (a τ M).bind fun x M1 => (b τ M1).bind fun y M2 => (fin false (g x y M2) M2).bind fun z M3 => match z with
  | .bl true => (c τ M3).bind fun w M4 => fin false (g' y w M4) M4
  | .bl false => .ok (.bl false) M3
  | _ => .bad
theorem tChain_of {g g' : O2} {r r' : R2} (hr : Real2 G g r) (hr' : Real2 G g' r') (hn : ∀ x y M o, g x y M = some o → ∃ d, o = .v d) {σ : L2.St} {H : Hp} {Q : VK} (q : tE Γ (eChain g g' ma mb mc) σ H Q) : tChain r r' (tE Γ ma) (tE Γ mb) (tE Γ mc) σ H Q := by
  obtain ⟨τ, W, rfl, he, ok, rs, h⟩ := q
  refine step he ok rs h fun dx x W1 k1 e1 r1 h1 => ?_
  refine step (e1.ea.trans he) k1 (rs.mono e1) h1 fun dy y W2 k2 e2 r2 h2 => ?_
  refine hr W2 dx dy x y _ k2 (r1.mono e2) r2 ?_
  cases eg : g dx dy W2.M with
  | none =>
    rw [eg] at h2
    exact h2
  | some o =>
    obtain ⟨d, rfl⟩ := hn _ _ _ _ eg
    rw [eg] at h2
    intro v W3 m3 k3 e3 r3
    have h3 := h2.ext e3
    simp only [fin, R.bind_ok] at h3
    rw [← m3] at h3
    cases d with
    | bl k =>
      refine ⟨k, r3, ?_⟩
      cases k with
      | false => exact h3 _ W3 rfl k3 (Ext.refl W3) rfl
      | true =>
        rw [if_pos rfl]
        refine step (e3.ea.trans (e2.ea.trans (e1.ea.trans he))) k3 (((rs.mono e1).mono e2).mono e3) h3 fun dz z W4 k4 e4 r4 h4 => ?_
        exact hr' W4 dy dz y z Q k4 ((r2.mono e3).mono e4) r4 (po_of k4 h4)
    | _ => exact h3.elim
theorem de_chain {op op' : CmpOp} {g g' : O2} {r r' : R2} (hr : Real2 G g r) (hr' : Real2 G g' r') (hn : ∀ x y M o, g x y M = some o → ∃ d, o = .v d) (ho : OpR X (compareOp op) r) (ho' : OpR X (compareOp op') r') (ha : DE Γ a ma) (hb : DE Γ b mb) (hc : DE Γ c mc)
    (hm : lastMarks [op, op'] [b, c] = false := by with_unfolding_all rfl) : DE Γ (.Compare a [op, op'] [b, c] pos) (eChain g g' ma mb mc) := pe_imp (pe_chain ho ho' ha hb hc hm) fun _ _ _ q => tChain_of hr hr' hn q
theorem dt_chain {op op' : CmpOp} {g g' : O2} {r r' : R2} (hr : Real2 G g r) (hr' : Real2 G g' r') (hn : ∀ x y M o, g x y M = some o → ∃ d, o = .v d) (ho : OpR X (compareOp op) r) (ho' : OpR X (compareOp op') r') (ha : DE Γ a ma) (hb : DE Γ b mb) (hc : DE Γ c mc)
    (hm : lastMarks [op, op'] [b, c] = false := by with_unfolding_all rfl) : DT Γ (.Compare a [op, op'] [b, c] pos) (asB (eChain g g' ma mb mc)) := dt_of (pt_chain ho ho' ha hb hc hm) fun _ _ _ q => tChain_of hr hr' hn q

/-! ### and, or, not, if -/
variable {ta tb : TM} {rest : List Expr}
@[simp] def mAnd (a b : TM) : TM := fun τ M => (a τ M).bind fun x M1 => if x = true then b τ M1 else .ok false M1
@[simp] def mOr (a b : TM) : TM := fun τ M => (a τ M).bind fun x M1 => if x = true then .ok true M1 else b τ M1
@[simp] def mNot (a : TM) : TM := fun τ M => (a τ M).bind fun x M1 => .ok (!x) M1
theorem dw_and1 (ha : DT Γ a ta) : DW Γ (.BoolOp .And [a] pos) ta := pw_and1 ha
theorem dw_or1 (ha : DT Γ a ta) : DW Γ (.BoolOp .Or [a] pos) ta := pw_or1 ha
theorem dw_and (ha : DT Γ a ta) (hb : DW Γ (.BoolOp .And (b :: rest) pos) tb) : DW Γ (.BoolOp .And (a :: b :: rest) pos) (mAnd ta tb) := pw_imp (pw_and ha hb) fun σ H Q q => by
  obtain ⟨τ, W, rfl, he, ok, rs, h⟩ := q
  show tT Γ ta σ W.H _
  refine step he ok rs h fun dx x W1 k1 e1 r1 h1 => ?_
  cases r1
  cases dx with
  | true => exact ⟨τ, W1, rfl, by rw [e1.ea, he], k1, rs.mono e1, h1⟩
  | false => exact h1 false W1 rfl k1 (Ext.refl W1) rfl
theorem dw_or (ha : DT Γ a ta) (hb : DW Γ (.BoolOp .Or (b :: rest) pos) tb) : DW Γ (.BoolOp .Or (a :: b :: rest) pos) (mOr ta tb) := pw_imp (pw_or ha hb) fun σ H Q q => by
  obtain ⟨τ, W, rfl, he, ok, rs, h⟩ := q
  show tT Γ ta σ W.H _
  refine step he ok rs h fun dx x W1 k1 e1 r1 h1 => ?_
  cases r1
  cases dx with
  | false => exact ⟨τ, W1, rfl, by rw [e1.ea, he], k1, rs.mono e1, h1⟩
  | true => exact h1 true W1 rfl k1 (Ext.refl W1) rfl
theorem dt_w {e : Expr} (h : DW Γ e ta) : DT Γ e ta := h.pt
theorem dt_not (ha : DT Γ a ta) : DT Γ (.UnaryOp .Not a pos) (mNot ta) := pt_imp (pt_not ha) fun σ H Q q => by
  obtain ⟨τ, W, rfl, he, ok, rs, h⟩ := q
  show tT Γ ta σ W.H _
  refine step he ok rs h fun dx x W1 k1 e1 r1 h1 => ?_
  cases r1
  exact h1 _ W1 rfl k1 (Ext.refl W1) rfl
@[simp] def eAnd (a b : EM) : EM := fun τ M => (a τ M).bind fun x M1 => match x with
  | .bl true => b τ M1
  | .bl false => .ok (.bl false) M1
  | _ => .bad
@[simp] def eOr (a b : EM) : EM := fun τ M => (a τ M).bind fun x M1 => match x with
  | .bl false => b τ M1
  | .bl true => .ok (.bl true) M1
  | _ => .bad
@[simp] def eNot (a : EM) : EM := fun τ M => (a τ M).bind fun x M1 => match x with
  | .bl k => .ok (.bl (!k)) M1
  | _ => .bad
theorem de_one {op : BoolOp} (ha : DE Γ a ma) : DE Γ (.BoolOp op [a] pos) ma := pe_one ha
theorem de_and (ha : DE Γ a ma) (hb : DE Γ (.BoolOp .And (b :: rest) pos) mb) : DE Γ (.BoolOp .And (a :: b :: rest) pos) (eAnd ma mb) := pe_imp (pe_and ha hb) fun σ H Q q => by
  obtain ⟨τ, W, rfl, he, ok, rs, h⟩ := q
  show tE Γ ma σ W.H _
  refine step he ok rs h fun dx x W1 k1 e1 r1 h1 => ?_
  cases dx with
  | bl k =>
    refine ⟨k, r1, ?_⟩
    cases k with
    | true => exact ⟨τ, W1, rfl, by rw [e1.ea, he], k1, rs.mono e1, h1⟩
    | false => exact h1 _ W1 rfl k1 (Ext.refl W1) rfl
  | _ => exact h1.elim
theorem de_or (ha : DE Γ a ma) (hb : DE Γ (.BoolOp .Or (b :: rest) pos) mb) : DE Γ (.BoolOp .Or (a :: b :: rest) pos) (eOr ma mb) := pe_imp (pe_or ha hb) fun σ H Q q => by
  obtain ⟨τ, W, rfl, he, ok, rs, h⟩ := q
  show tE Γ ma σ W.H _
  refine step he ok rs h fun dx x W1 k1 e1 r1 h1 => ?_
  cases dx with
  | bl k =>
    refine ⟨k, r1, ?_⟩
    cases k with
    | false => exact ⟨τ, W1, rfl, by rw [e1.ea, he], k1, rs.mono e1, h1⟩
    | true => exact h1 _ W1 rfl k1 (Ext.refl W1) rfl
  | _ => exact h1.elim
theorem de_not (ha : DE Γ a ma) : DE Γ (.UnaryOp .Not a pos) (eNot ma) := pe_imp (pe_not ha) fun σ H Q q => by
  obtain ⟨τ, W, rfl, he, ok, rs, h⟩ := q
  show tE Γ ma σ W.H _
  refine step he ok rs h fun dx x W1 k1 e1 r1 h1 => ?_
  cases dx with
  | bl k => exact ⟨k, r1, h1 _ W1 rfl k1 (Ext.refl W1) rfl⟩
  | _ => exact h1.elim
@[simp] def eIf (t : TM) (a b : EM) : EM := fun τ M => (t τ M).bind fun x M1 => if x = true then a τ M1 else b τ M1
theorem de_if (hc : DT Γ c ta) (ha : DE Γ a ma) (hb : DE Γ b mb) : DE Γ (.IfExp c a b pos) (eIf ta ma mb) := pe_imp (pe_ifExp hc ha hb) fun σ H Q q => by
  obtain ⟨τ, W, rfl, he, ok, rs, h⟩ := q
  show tT Γ ta σ W.H _
  refine step he ok rs h fun dx x W1 k1 e1 r1 h1 => ?_
  cases r1
  cases dx with
  | true => exact ⟨τ, W1, rfl, by rw [e1.ea, he], k1, rs.mono e1, h1⟩
  | false => exact ⟨τ, W1, rfl, by rw [e1.ea, he], k1, rs.mono e1, h1⟩
/-- a value's truth -/
def dTru : D → Mem → Option Bool
  | .non, _ => some false
  | .bl b, _ => some b
  | .int i, _ => some (i != 0)
  | .tup ds, _ => some (!ds.isEmpty)
  | .lst ds, _ => some (!ds.isEmpty)
  | .kt ds, _ => some (!ds.isEmpty)
  | .loc l, M => match M[l]? with
    | some (some ds) => some (!ds.isEmpty)
    | _ => none
  | .dic, _ => some false
  | _, _ => none
@[simp] def asT (m : EM) : TM := fun τ M => (m τ M).bind fun x M1 => match dTru x M1 with
  | some k => .ok k M1
  | none => .bad
theorem RepL.isEmpty {W : Wd} {ds : List D} {xs : List V} (r : RepL G W ds xs) : xs.isEmpty = ds.isEmpty := by
  cases ds with
  | nil =>
    have r : xs = [] := r
    rw [r]
    rfl
  | cons d ds =>
    obtain ⟨v, r, rfl, _⟩ := r
    rfl
theorem KTup.sq {K : PySem.W.Frag} {H : Hp} {a : Addr} {xs : List V} (e : K = G.K) (h : KTup G a xs) : SqT K H a xs := by
  obtain ⟨o, its, n, h1, h2, h3, h4, h5⟩ := h
  exact .inr ⟨o, its, n, by rw [e]; exact h1, h2, h3, h4, h5⟩
theorem tru_of {W : Wd} {d : D} {v : V} {k : Bool} (ok : WOk G W) (r : Rep G W d v) (h : dTru d W.M = some k) : TruV G.K v W.H k := by
  cases d with
  | non => cases r; cases h; rfl
  | bl b => cases r; cases h; rfl
  | int i => cases r; cases h; rfl
  | tup ds =>
    obtain ⟨a, xs, rfl, h1, _, r⟩ := r
    cases h
    exact .inr (.inl ⟨xs, .of h1, by rw [r.isEmpty]⟩)
  | lst ds =>
    obtain ⟨a, xs, rfl, h1, _, r⟩ := r
    cases h
    exact .inl ⟨xs, .of h1, by rw [r.isEmpty]⟩
  | kt ds =>
    obtain ⟨a, xs, rfl, h1, r⟩ := r
    cases h
    exact .inr (.inl ⟨xs, h1.sq rfl, by rw [r.isEmpty]⟩)
  | loc l =>
    obtain ⟨a, h1, rfl⟩ := r
    have h : (match W.M[l]? with
      | some (some ds) => some (!ds.isEmpty)
      | _ => none) = some k := h
    split at h
    · rename_i ds e
      cases h
      obtain ⟨a', xs, h2, h3, h4⟩ := ok.there l ds e
      rw [h1] at h2
      cases h2
      exact .inl ⟨xs, .of h3, by rw [h4.isEmpty]⟩
    · cases h
  | dic =>
    obtain ⟨a, rfl, h1, _⟩ := r
    cases h
    exact .inr (.inr ⟨[], h1, rfl⟩)
  | _ => cases h
theorem dt_tru (ha : DE Γ a ma) (he : ∀ whole, isTrue a X.env whole = (do let v ← whole; standAt a.pos; holding [v] (truthy v)) := by intro _; rfl) : DT Γ a (asT ma) := pt_imp (pt_truth ha he) fun σ H Q q => by
  obtain ⟨τ, W, rfl, he, ok, rs, h⟩ := q
  refine step he ok rs h fun dx x W1 k1 e1 r1 h1 => ?_
  cases e : dTru dx W1.M with
  | none =>
    rw [e] at h1
    exact h1.elim
  | some k =>
    rw [e] at h1
    exact ⟨k, by rw [Γ.hK]; exact tru_of k1 r1 e, h1 k W1 rfl k1 (Ext.refl W1) rfl⟩

/-! ### argument lists, displays, calls of builtins -/
@[simp] def aNil : AM := fun _ M => .ok [] M
@[simp] def aCons (a : EM) (r : AM) : AM := fun τ M => (a τ M).bind fun x M1 => (r τ M1).bind fun xs M2 => .ok (x :: xs) M2
variable {es : List Expr} {mr : AM}
theorem da_nil : DA Γ [] aNil := pa_imp pa_nil fun σ H Q q => by
  obtain ⟨τ, W, rfl, he, ok, rs, h⟩ := q
  exact h [] W rfl ok (Ext.refl W) rfl
theorem da_cons (ha : DE Γ a ma) (hr : DA Γ es mr) (hs : starEach (a :: es) X.env = (false, eval a X.env) :: starEach es X.env := by rfl) : DA Γ (a :: es) (aCons ma mr) := pa_imp (pa_cons ha hr hs) fun σ H Q q => by
  obtain ⟨τ, W, rfl, he, ok, rs, h⟩ := q
  show tE Γ ma σ W.H _
  refine step he ok rs h fun dx x W1 k1 e1 r1 h1 => ?_
  refine step (e1.ea.trans he) k1 (rs.mono e1) h1 fun ds xs W2 k2 e2 r2 h2 => ?_
  exact h2 (x :: xs) W2 rfl k2 (Ext.refl W2) ⟨x, xs, rfl, r1.mono e2, r2⟩
@[simp] def oTup : OA := fun ds _ => if ds.length ≤ sizeLine then some (.v (.tup ds)) else none
@[simp] def oLst : OA := fun ds _ => if ds.length ≤ sizeLine then some (.l ds) else none
@[simp] def eArgs (own : Bool) (g : OA) (r : AM) : EM := fun τ M => (r τ M).bind fun xs M1 => fin own (g xs M1) M1
theorem tArgs_of {own : Bool} {g : OA} {r : List V → Hp → VK → Prop} (hr : RealA G g r) {σ : L2.St} {H : Hp} {Q : VK} (q : tE Γ (eArgs own g mr) σ H Q) : tA Γ mr σ H fun xs H1 => r xs H1 Q := by
  obtain ⟨τ, W, rfl, he, ok, rs, h⟩ := q
  exact step he ok rs h fun ds xs W1 k1 e1 r1 h1 => hr W1 ds xs Q k1 r1 (po_of k1 h1)
theorem real_tup : RealA G oTup (fun xs H Q => xs.length ≤ sizeLine ∧ ∀ p, H p = none → Q (.ref p) (upd H p (.tup xs))) := fun W ds xs Q k r h => by
  unfold oTup at h
  split at h
  · rename_i e
    refine ⟨by rw [← r.length]; exact e, fun p hp => ?_⟩
    exact h (.ref p) (W.new p (.tup xs)) rfl (ok_new k hp) (ext_new k hp) ⟨p, xs, rfl, upd_same, own_new k hp, r.mono (ext_new k hp)⟩
  · exact h.elim
theorem real_lst : RealA G oLst (fun xs H Q => xs.length ≤ sizeLine ∧ ∀ p, H p = none → Q (.ref p) (upd H p (.lst xs))) := fun W ds xs Q k r h => by
  unfold oLst at h
  split at h
  · rename_i e
    exact ⟨by rw [← r.length]; exact e, fun p hp => h xs p r hp⟩
  · exact h.elim
theorem de_tup {x1 : Nat} (h : DA Γ es mr) : DE Γ (.Tuple es x1 pos) (eArgs false oTup mr) := pe_imp (pe_tup h) fun _ _ _ q => tArgs_of real_tup q
theorem de_lst (own : Bool) (h : DA Γ es mr) : DE Γ (.List es pos) (eArgs own oLst mr) := pe_imp (pe_lst h) fun _ _ _ q => tArgs_of real_lst q
variable {x : Str} {p : Pos}
/-- f(..), f a built-in function; a built-in type -/
theorem de_callB (own : Bool) {id : String} {g : OA} {r : List V → Hp → VK → Prop} (hr : RealA G g r) (hc : CallR X (.builtin id) r) (hm : X.mg x = none) (hv : bootBuiltins x = some (.builtin id)) (ha : DA Γ (a :: es) mr) (hg : Gl X x := by rfl) (hn : x ≠ "__name__" := by decide) (hdb : (x == ("__debug__" : Str)) = false := by decide)
    (he : starEach (a :: es) X.env = (false, eval a X.env) :: starEach es X.env := by rfl) (hpl : (backTo pos (starEach es X.env)).any (·.1) = false := by rfl) : DE Γ (.Call (.Name x p) (a :: es) [] pos) (eArgs own g mr) :=
  pe_imp (pe_callB hc hg hm hv ha hn hdb he hpl) fun _ _ _ q => tArgs_of hr q
theorem de_callTy (own : Bool) {T : String} {g : OA} {r : List V → Hp → VK → Prop} (hr : RealA G g r) (hc : CallR X (.type T) r) (hm : X.mg x = none) (hv : bootBuiltins x = some (.type T)) (ha : DA Γ (a :: es) mr) (hg : Gl X x := by rfl) (hn : x ≠ "__name__" := by decide) (hdb : (x == ("__debug__" : Str)) = false := by decide)
    (he : starEach (a :: es) X.env = (false, eval a X.env) :: starEach es X.env := by rfl) (hpl : (backTo pos (starEach es X.env)).any (·.1) = false := by rfl) : DE Γ (.Call (.Name x p) (a :: es) [] pos) (eArgs own g mr) :=
  pe_imp (pe_callTy hc hg hm hv ha hn hdb he hpl) fun _ _ _ q => tArgs_of hr q

/-! ### statements -/
def pS (G : Gd) (Wx : WX) (W : Wd) (r : RS) (Dn : Ends) : Prop := match r with
  | .nx τ M => ∀ σ W', W'.M = M → WOk G W' → Ext W W' → RelS G W' τ σ → Dn.nx σ W'.H
  | .bk τ M => ∀ σ W', W'.M = M → WOk G W' → Ext W W' → RelS G W' τ σ → Dn.bk σ W'.H
  | .ct τ M => ∀ σ W', W'.M = M → WOk G W' → Ext W W' → RelS G W' τ σ → Dn.ct σ W'.H
  | .rt d M => ∀ v W', W'.M = M → WOk G W' → Ext W W' → Rep G W' d v → Dn.rt v W'.H
  | .exc x τ M => ∀ cls dd σ W', W'.M = M → WOk G W' → Ext W W' → RelS G W' τ σ → RepX G W' x cls dd → Wx cls dd σ W'.H
  | .bad => False
def tS (G : Gd) (Wx : WX) (ea : Option (Addr × String × Option Addr)) (m : SM) : TS := fun Dn σ H => ∃ τ W, W.H = H ∧ W.ea = ea ∧ WOk G W ∧ RelS G W τ σ ∧ pS G Wx W (m τ W.M) Dn
theorem pS.ext {Wx : WX} {W W' : Wd} {r : RS} {Dn : Ends} (e : Ext W W') (h : pS G Wx W r Dn) : pS G Wx W' r Dn := by
  cases r with
  | nx τ M => exact fun σ W2 m k e2 q => h σ W2 m k (e.trans e2) q
  | bk τ M => exact fun σ W2 m k e2 q => h σ W2 m k (e.trans e2) q
  | ct τ M => exact fun σ W2 m k e2 q => h σ W2 m k (e.trans e2) q
  | rt d M => exact fun v W2 m k e2 q => h v W2 m k (e.trans e2) q
  | exc x τ M => exact fun c d σ W2 m k e2 q r => h c d σ W2 m k (e.trans e2) q r
  | bad => exact h
abbrev DS (Γ : DC G X) (s : Stmt) (m : SM) : Prop := PS X s (tS G Γ.W Γ.ea m)
abbrev DSs (Γ : DC G X) (s : List Stmt) (m : SM) : Prop := PSs X s (tS G Γ.W Γ.ea m)
/-- a value, then a statement's end -/
def andS {α : Type} (r : R α) (τ : DSt) (k : α → Mem → RS) : RS := match r with
  | .ok a M => k a M
  | .exc x M => .exc x τ M
  | .bad => .bad
@[simp] theorem andS_ok {α : Type} (a : α) (M : Mem) (τ : DSt) (k : α → Mem → RS) : andS (R.ok a M) τ k = k a M := rfl
@[simp] theorem andS_exc {α : Type} (x : D) (M : Mem) (τ : DSt) (k : α → Mem → RS) : andS (R.exc (α := α) x M) τ k = .exc x τ M := rfl
theorem stepS {α β : Type} {rel : Wd → α → β → Prop} {m1 : DSt → Mem → R α} {k : α → Mem → RS} {Wx : WX} {W : Wd} {τ : DSt} {σ : L2.St} {Dn : Ends} {Q1 : β → Hp → Prop} {ea : Option (Addr × String × Option Addr)} (he : W.ea = ea) (ok : WOk G W) (rs : RelS G W τ σ) (hp : pS G Wx W (andS (m1 τ W.M) τ k) Dn)
    (h : ∀ a b W1, WOk G W1 → Ext W W1 → rel W1 a b → pS G Wx W1 (k a W1.M) Dn → Q1 b W1.H) : tR G Wx ea rel m1 σ W.H Q1 := by
  refine ⟨τ, W, rfl, he, ok, rs, ?_⟩
  cases e : m1 τ W.M with
  | ok a M =>
    intro b W1 hm k1 e1 r1
    rw [e] at hp
    subst hm
    exact h a b W1 k1 e1 r1 (hp.ext e1)
  | exc x M =>
    rw [e] at hp
    exact fun c d W1 m1 k1 e1 r1 => hp c d σ W1 m1 k1 e1 (rs.mono e1) r1
  | bad =>
    rw [e] at hp
    exact hp
@[simp] def sNil : SM := fun τ M => .nx τ M
@[simp] def sSeq (a b : SM) : SM := fun τ M => match a τ M with
  | .nx τ' M' => b τ' M'
  | r => r
variable {st : Stmt} {rs' : List Stmt} {ms mt : SM}
theorem dss_nil : DSs Γ [] sNil := pss_imp pss_nil fun Dn σ H q => by
  obtain ⟨τ, W, rfl, he, ok, rs, h⟩ := q
  exact h σ W rfl ok (Ext.refl W) rs
theorem dss_cons (h1 : DS Γ st ms) (h2 : DSs Γ rs' mt) : DSs Γ (st :: rs') (sSeq ms mt) := pss_imp (pss_cons h1 h2) fun Dn σ H q => by
  obtain ⟨τ, W, rfl, he, ok, rs, h⟩ := q
  refine ⟨τ, W, rfl, he, ok, rs, ?_⟩
  unfold sSeq at h
  cases e : ms τ W.M with
  | nx τ' M' =>
    rw [e] at h
    intro σ' W' m' k' e' r'
    refine ⟨τ', W', rfl, by rw [e'.ea, he], k', r', ?_⟩
    rw [m']
    exact h.ext e'
  | bk τ' M' => rw [e] at h; exact h
  | ct τ' M' => rw [e] at h; exact h
  | rt d M' => rw [e] at h; exact h
  | exc x τ' M' => rw [e] at h; exact h
  | bad => rw [e] at h; exact h
theorem dss_one (h1 : DS Γ st ms) : DSs Γ [st] ms := pss_one h1
/-- what the proof never comes to -/
def sNo : SM := fun _ _ => .bad
theorem ds_no : DS Γ st sNo := ps_imp ps_never fun Dn σ H q => by
  obtain ⟨τ, W, rfl, he, ok, rs, h⟩ := q
  exact h
theorem dss_no : DSs Γ rs' sNo := pss_imp pss_never fun Dn σ H q => by
  obtain ⟨τ, W, rfl, he, ok, rs, h⟩ := q
  exact h
@[simp] def sBreak : SM := fun τ M => .bk τ M
@[simp] def sCont : SM := fun τ M => .ct τ M
theorem ds_pass : DS Γ (.Pass pos) sNil := ps_imp ps_pass fun Dn σ H q => by
  obtain ⟨τ, W, rfl, he, ok, rs, h⟩ := q
  exact h σ W rfl ok (Ext.refl W) rs
theorem ds_break : DS Γ (.Break pos) sBreak := ps_imp ps_break fun Dn σ H q => by
  obtain ⟨τ, W, rfl, he, ok, rs, h⟩ := q
  exact h σ W rfl ok (Ext.refl W) rs
theorem ds_cont : DS Γ (.Continue pos) sCont := ps_imp ps_continue fun Dn σ H q => by
  obtain ⟨τ, W, rfl, he, ok, rs, h⟩ := q
  exact h σ W rfl ok (Ext.refl W) rs
@[simp] def sRet (m : EM) : SM := fun τ M => andS (m τ M) τ fun d M1 => .rt d M1
theorem ds_ret (ha : DE Γ a ma) : DS Γ (.Return (some a) pos) (sRet ma) := ps_imp (ps_ret ha) fun Dn σ H q => by
  obtain ⟨τ, W, rfl, he, ok, rs, h⟩ := q
  show tE Γ ma σ W.H Dn.rt
  exact stepS he ok rs h fun d v W1 k1 e1 r1 h1 => h1 v W1 rfl k1 (Ext.refl W1) r1
@[simp] def sRetN : SM := fun _ M => .rt .non M
theorem ds_retN : DS Γ (.Return none pos) sRetN := ps_imp ps_retN fun Dn σ H q => by
  obtain ⟨τ, W, rfl, he, ok, rs, h⟩ := q
  exact h .non W rfl ok (Ext.refl W) rfl
@[simp] def sExpr (m : EM) : SM := fun τ M => andS (m τ M) τ fun _ M1 => .nx τ M1
theorem ds_expr (ha : DE Γ a ma) (hs : swapsWith a none pos.line X.env = pure false := by rfl) : DS Γ (.Expr a pos) (sExpr ma) := ps_imp (ps_expr ha hs) fun Dn σ H q => by
  obtain ⟨τ, W, rfl, he, ok, rs, h⟩ := q
  show tE Γ ma σ W.H _
  exact stepS he ok rs h fun d v W1 k1 e1 r1 h1 => h1 σ W1 rfl k1 (Ext.refl W1) (rs.mono e1)
@[simp] def sIf (t : TM) (a b : SM) : SM := fun τ M => andS (t τ M) τ fun k M1 => if k = true then a τ M1 else b τ M1
theorem ds_if {bs cs : List Stmt} (hc : DT Γ c ta) (ha : DSs Γ bs ms) (hb : DSs Γ cs mt) : DS Γ (.If c bs cs pos) (sIf ta ms mt) := ps_imp (ps_if hc ha hb) fun Dn σ H q => by
  obtain ⟨τ, W, rfl, he, ok, rs, h⟩ := q
  show tT Γ ta σ W.H _
  refine stepS he ok rs h fun d v W1 k1 e1 r1 h1 => ?_
  cases r1
  cases d with
  | true => exact ⟨τ, W1, rfl, by rw [e1.ea, he], k1, rs.mono e1, h1⟩
  | false => exact ⟨τ, W1, rfl, by rw [e1.ea, he], k1, rs.mono e1, h1⟩
@[simp] def sSet (i : Nat) (m : EM) : SM := fun τ M => andS (m τ M) τ fun d M1 => .nx (τ.set i (some d)) M1
theorem ds_set {i : Nat} {x : Str} {pos' : Pos} (hN : X.N.Nodup) (ha : DE Γ a ma) (hi : X.N[i]? = some x := by rfl) (hx : Loc X.env.scope x := by first | exact Or.inl rfl | exact Or.inr rfl) (hs : swapsWith a (some (.Name x pos')) pos.line X.env = pure false := by rfl) (hf : X.fn x = true ∨ X.env.scope.names.lookup x = some .local := by first | exact .inl rfl | exact .inr rfl | assumption) :
    DS Γ (.Assign [.Name x pos'] a pos) (sSet i ma) := ps_imp (ps_set hN hi hx ha hs hf) fun Dn σ H q => by
  obtain ⟨τ, W, rfl, he, ok, rs, h⟩ := q
  show tE Γ ma σ W.H _
  exact stepS he ok rs h fun d v W1 k1 e1 r1 h1 => h1 _ W1 rfl k1 (Ext.refl W1) ((rs.mono e1).set i r1)

/-! ### targets -/
abbrev GM := D → DSt → Mem → R DSt
abbrev GsM := List D → DSt → Mem → R DSt
abbrev noW : WX := fun _ _ _ _ => False
def tG (Γ : DC G X) (m : GM) : TG := fun v σ H Q => ∃ d τ W, W.H = H ∧ W.ea = Γ.ea ∧ WOk G W ∧ RelS G W τ σ ∧ Rep G W d v ∧ pR G noW (fun W' t s => RelS G W' t s) W σ (m d τ W.M) Q
def tGs (Γ : DC G X) (m : GsM) : TGs := fun vs σ H Q => ∃ ds τ W, W.H = H ∧ W.ea = Γ.ea ∧ WOk G W ∧ RelS G W τ σ ∧ RepL G W ds vs ∧ pR G noW (fun W' t s => RelS G W' t s) W σ (m ds τ W.M) Q
theorem pR.nox {α β : Type} {rel : Wd → α → β → Prop} {W : Wd} {σ : L2.St} {r : R α} {Q : β → Hp → Prop} {Wx : WX} (h : pR G noW rel W σ r Q) : pR G Wx rel W σ r Q := by
  cases r with
  | ok a M => exact h
  | exc x M => exact fun c d W2 m k e2 q => (h c d W2 m k e2 q).elim
  | bad => exact h
theorem pR.any {α β : Type} {rel : Wd → α → β → Prop} {W : Wd} {σ σ' : L2.St} {r : R α} {Q : β → Hp → Prop} (h : pR G noW rel W σ r Q) : pR G noW rel W σ' r Q := by
  cases r with
  | ok a M => exact h
  | exc x M => exact h
  | bad => exact h
end
end DM

/-! DM: targets, loops, comprehensions. -/
namespace DM
open PySem PySem.Spec PyProof.Rows L2
open Classical in
section
variable {G : Gd} {X : Cx} {Γ : DC G X} {pos : Pos}
abbrev DG (Γ : DC G X) (tg : Expr) (m : GM) : Prop := PG X tg (tG Γ m)
abbrev DGs (Γ : DC G X) (tg : List Expr) (m : GsM) : Prop := PGs X tg (tGs Γ m)
theorem pg_imp {X : Cx} {e : Expr} {t t' : TG} (h : PG X e t) (i : ∀ v σ H Q, t' v σ H Q → t v σ H Q) : PG X e t' := ⟨fun pins s σ H v u Q I r q => h.run pins s σ H v u Q I r (i _ _ _ _ q)⟩
theorem pgs_imp {X : Cx} {e : List Expr} {t t' : TGs} (h : PGs X e t) (i : ∀ v σ H Q, t' v σ H Q → t v σ H Q) : PGs X e t' := ⟨fun pins s σ H v u Q I r q => h.run pins s σ H v u Q I r (i _ _ _ _ q)⟩
@[simp] def mName (i : Nat) : GM := fun d τ M => .ok (τ.set i (some d)) M
theorem dg_name {i : Nat} {x : Str} (hN : X.N.Nodup) (hi : X.N[i]? = some x := by rfl) (hx : Loc X.env.scope x := by first | exact Or.inl rfl | exact Or.inr rfl) (hf : X.fn x = true ∨ X.env.scope.names.lookup x = some .local := by first | exact .inl rfl | exact .inr rfl | assumption) :
    DG Γ (.Name x pos) (mName i) := pg_imp (pg_name hN hi hx hf) fun v σ H Q q => by
  obtain ⟨d, τ, W, rfl, he, ok, rs, r, h⟩ := q
  exact h _ W rfl ok (Ext.refl W) (rs.set i r)
@[simp] def mNil : GsM := fun ds τ M => match ds with
  | [] => .ok τ M
  | _ => .bad
@[simp] def mCons (g : GM) (r : GsM) : GsM := fun ds τ M => match ds with
  | d :: ds => (g d τ M).bind fun τ1 M1 => r ds τ1 M1
  | [] => .bad
@[simp] def mTup (n : Nat) (m : GsM) : GM := fun d τ M => match d with
  | .tup ds => if ds.length = n then m ds τ M else .bad
  | .kt ds => if ds.length = n then m ds τ M else .bad
  | _ => .bad
theorem dgs_nil : DGs Γ [] mNil := pgs_imp pgs_nil fun v σ H Q q => by
  obtain ⟨ds, τ, W, rfl, he, ok, rs, r, h⟩ := q
  cases ds with
  | nil => exact ⟨r, h _ W rfl ok (Ext.refl W) rs⟩
  | cons _ _ => exact h.elim
theorem dgs_cons {e : Expr} {es : List Expr} {g : GM} {r : GsM} (h1 : DG Γ e g) (h2 : DGs Γ es r) (hs : (assignEach (e :: es) X.env).map (·.2) = assign e X.env :: (assignEach es X.env).map (·.2) := by rfl) : DGs Γ (e :: es) (mCons g r) :=
  pgs_imp (pgs_cons h1 h2 hs) fun v σ H Q q => by
  obtain ⟨ds, τ, W, rfl, he, ok, rs, rr, h⟩ := q
  cases ds with
  | nil => exact h.elim
  | cons d ds =>
    obtain ⟨v, vs, rfl, r1, r2⟩ := rr
    refine ⟨v, vs, rfl, d, τ, W, rfl, he, ok, rs, r1, ?_⟩
    have h : pR G noW (fun W' t s => RelS G W' t s) W σ ((g d τ W.M).bind fun τ1 M1 => r ds τ1 M1) Q := h
    cases e : g d τ W.M with
    | ok τ1 M1 =>
      rw [e] at h
      intro σ1 W1 m1 k1 e1 s1
      refine ⟨ds, τ1, W1, rfl, e1.ea.trans he, k1, s1, r2.mono e1, ?_⟩
      rw [m1]
      have h : pR G noW (fun W' t s => RelS G W' t s) W σ (r ds τ1 M1) Q := h
      exact (h.ext e1).any
    | exc x M =>
      rw [e] at h
      exact h
    | bad =>
      rw [e] at h
      exact h
def tupOf : D → Option (List D)
  | .tup ds => some ds
  | .kt ds => some ds
  | _ => none
theorem tup_of {W : Wd} {d : D} {v : V} {ds : List D} (r : Rep G W d v) (h : tupOf d = some ds) : ∃ a xs, v = .ref a ∧ SqT G.K W.H a xs ∧ RepL G W ds xs := by
  cases d with
  | tup es =>
    obtain ⟨a, xs, rfl, h1, _, r⟩ := r
    cases h
    exact ⟨a, xs, rfl, .of h1, r⟩
  | kt es =>
    obtain ⟨a, xs, rfl, h1, r⟩ := r
    cases h
    exact ⟨a, xs, rfl, h1.sq rfl, r⟩
  | _ => cases h
theorem dg_tup {es : List Expr} {k : Nat} {m : GsM} {n : Nat} (h : DGs Γ es m) (hc : X.calm = true := by rfl) (hn : (assignEach es X.env).length = n := by rfl) (hst : (assignEach es X.env).findIdx? (·.1) = none := by rfl) : DG Γ (.Tuple es k pos) (mTup n m) :=
  pg_imp (pg_tup hc h hn hst) fun v σ H Q q => by
  obtain ⟨d, τ, W, rfl, he, ok, rs, r, h⟩ := q
  have key : ∃ ds, tupOf d = some ds ∧ ds.length = n ∧ pR G noW (fun W' t s => RelS G W' t s) W σ (m ds τ W.M) Q := by
    unfold mTup at h
    split at h
    · split at h
      · exact ⟨_, rfl, by assumption, h⟩
      · exact h.elim
    · split at h
      · exact ⟨_, rfl, by assumption, h⟩
      · exact h.elim
    · exact h.elim
  obtain ⟨ds, e1, e2, h⟩ := key
  obtain ⟨a, xs, rfl, hs, rr⟩ := tup_of r e1
  exact ⟨a, xs, rfl, by rw [Γ.hK]; exact hs, by rw [← rr.length]; exact e2, ds, τ, W, rfl, he, ok, rs, rr, h⟩
/-- target = value -/
@[simp] def sAsg (m : EM) (g : GM) : SM := fun τ M => andS (m τ M) τ fun d M1 => match g d τ M1 with
  | .ok τ' M' => .nx τ' M'
  | _ => .bad
theorem ds_asg {tg e : Expr} {m : EM} {g : GM} (ha : DE Γ e m) (hg : DG Γ tg g) (hs : swapsWithSole [tg] e pos.line X.env = pure false := by rfl) (hw : swappedStores [tg] e X.env = pure none := by rfl) (h1 : (assignEach [tg] X.env).map (·.2) = [assign tg X.env] := by rfl) :
    DS Γ (.Assign [tg] e pos) (sAsg m g) := ps_imp (ps_asg ha hg hs hw h1) fun Dn σ H q => by
  obtain ⟨τ, W, rfl, he, ok, rs, h⟩ := q
  refine stepS he ok rs h fun d v W1 k1 e1 r1 h1 => ?_
  refine ⟨d, τ, W1, rfl, e1.ea.trans he, k1, rs.mono e1, r1, ?_⟩
  cases e : g d τ W1.M with
  | ok τ' M' =>
    rw [e] at h1
    exact fun σ' W' m' k' e' r' => h1 σ' W' m' k' e' r'
  | exc x M =>
    rw [e] at h1
    exact h1.elim
  | bad =>
    rw [e] at h1
    exact h1.elim
/-- o[i] = .. for a place -/
def placeOf : D → Option Nat
  | .loc l => some l
  | _ => none
def intOf : D → Option Int
  | .int i => some i
  | _ => none
theorem place_eq {d : D} {l : Nat} (h : placeOf d = some l) : d = .loc l := by
  cases d <;> cases h <;> rfl
theorem int_eq {d : D} {i : Int} (h : intOf d = some i) : d = .int i := by
  cases d <;> cases h <;> rfl
def memAt (M : Mem) (l : Nat) : Option (List D) := (M[l]?).join
theorem mem_eq {M : Mem} {l : Nat} {ds : List D} (h : memAt M l = some ds) : M[l]? = some (some ds) := by
  unfold memAt at h
  cases e : M[l]? with
  | none => rw [e] at h; cases h
  | some o =>
    rw [e] at h
    cases o with
    | none => cases h
    | some x => cases h; rfl
@[simp] def setAt (x y : D) (M : Mem) : Option (Nat × List D × Nat) := (placeOf x).bind fun l => (intOf y).bind fun k => (memAt M l).bind fun ds => (ixN ds.length k).map fun j => (l, ds, j)
theorem setAt_eq {x y : D} {M : Mem} {l j : Nat} {ds : List D} (h : setAt x y M = some (l, ds, j)) : ∃ k, x = .loc l ∧ y = .int k ∧ M[l]? = some (some ds) ∧ ixN ds.length k = some j := by
  unfold setAt at h
  simp only [Option.bind_eq_some_iff, Option.map_eq_some_iff, Prod.mk.injEq] at h
  obtain ⟨a, h1, k, h2, ds', h3, j', h4, rfl, rfl, rfl⟩ := h
  exact ⟨k, place_eq h1, int_eq h2, mem_eq h3, h4⟩
@[simp] def mSub (o i : EM) : GM := fun d τ M => (o τ M).bind fun x M1 => (i τ M1).bind fun y M2 => match setAt x y M2 with
  | some (l, ds, j) => .ok τ (M2.set l (some (ds.set j d)))
  | none => .bad
theorem dg_sub {o i : Expr} {mo mi : EM} (ho : DE Γ o mo) (hi : DE Γ i mi)
    (ha : ∀ v, assign (.Subscript o i pos) X.env v = (do
      let ov ← holding [v] (eval o X.env)
      let iv ← holding [v, ov] (eval i X.env)
      standAt pos
      holding [v, ov, iv] (setItem ov iv v)
      release [v, ov, iv] []) := by intro _; rfl) : DG Γ (.Subscript o i pos) (mSub mo mi) := pg_imp (pg_sub ho hi set_list ha) fun v σ H Q q => by
  obtain ⟨d, τ, W, rfl, he, ok, rs, r, h⟩ := q
  refine step he ok rs (h.nox (Wx := Γ.W)) fun dx x W1 k1 e1 r1 h1 => ?_
  refine step (e1.ea.trans he) k1 (rs.mono e1) h1 fun dy y W2 k2 e2 r2 h2 => ?_
  cases eq : setAt dx dy W2.M with
  | none => rw [eq] at h2; exact h2.elim
  | some p =>
    obtain ⟨l, ds, j⟩ := p
    rw [eq] at h2
    obtain ⟨k, rfl, rfl, em, ej⟩ := setAt_eq eq
    obtain ⟨a, ha1, rfl⟩ := r1.mono e2
    cases r2
    obtain ⟨a', xs, h3, h4, h5⟩ := k2.there l ds em
    rw [ha1] at h3
    cases h3
    refine ⟨a, xs, k, j, rfl, rfl, h4, by rw [← h5.length]; exact ej, ?_⟩
    have rr := RepL.set j h5 ((r.mono e1).mono e2)
    exact h2 σ (W2.put l a _ _) rfl (ok_put k2 em ha1 rr) (ext_put k2 em ha1) (((rs.mono e1).mono e2).mono (ext_put k2 em ha1))

/-! ### what is walked -/
structure ItD where
  xs : List D
  src : List (Nat × List D) := []
def Chk (src : List (Nat × List D)) (M : Mem) : Prop := ∀ p ∈ src, M[p.1]? = some (some p.2)
def ItOk (G : Gd) (W0 : Wd) (J : It) (it : ItD) : Prop := ∀ W, WOk G W → Ext0 W0 W → Chk it.src W.M →
  (∀ (i : Nat) (d : D), it.xs[i]? = some d → J.go i W.H ∧ ∀ x H', J.yld i W.H x H' → ∃ W', W'.H = H' ∧ W'.M = W.M ∧ WOk G W' ∧ Ext W W' ∧ Rep G W' d x) ∧ (∀ i : Nat, it.xs.length ≤ i → J.stop i W.H)
abbrev IM := DSt → Mem → R ItD
abbrev tI (Γ : DC G X) (m : IM) : TI := tR G Γ.W Γ.ea (fun W it J => ItOk G W J it) m
abbrev DI (Γ : DC G X) (tg e : Expr) (m : IM) : Prop := PI X tg e (tI Γ m)
theorem pi_imp {X : Cx} {tg e : Expr} {t t' : TI} (h : PI X tg e t) (i : ∀ σ H Q, t' σ H Q → t σ H Q) : PI X tg e t' := ⟨fun pins s σ H Q I q => h.run pins s σ H Q I (i _ _ _ q)⟩
/-- the items of a sequence, and what must stay for them to be so -/
def seqOf : D → Mem → Option ItD
  | .tup ds, _ => some { xs := ds }
  | .kt ds, _ => some { xs := ds }
  | .lst ds, _ => some { xs := ds }
  | .scr ns, _ => some { xs := ns.map D.int }
  | .loc l, M => match M[l]? with
    | some (some ds) => some { xs := ds, src := [(l, ds)] }
    | _ => none
  | _, _ => none
def lstOf : D → Mem → Option ItD
  | .lst ds, _ => some { xs := ds }
  | .scr ns, _ => some { xs := ns.map D.int }
  | .loc l, M => match M[l]? with
    | some (some ds) => some { xs := ds, src := [(l, ds)] }
    | _ => none
  | _, _ => none
theorem lst_at {W0 : Wd} {d : D} {v : V} {it : ItD} {M : Mem} (r : Rep G W0 d v) (h : lstOf d M = some it) : ∃ a, v = .ref a ∧ ∀ W, WOk G W → Ext0 W0 W → Chk it.src W.M → ∃ xs, SqL G.K W.H a xs ∧ RepL G W it.xs xs := by
  cases d with
  | lst ds =>
    obtain ⟨a, xs, rfl, h1, h2, r⟩ := r
    cases h
    exact ⟨a, rfl, fun W k e _ => ⟨xs, .of (e.H a _ h1 h2).1, RepL.mono0 e r⟩⟩
  | scr ns =>
    obtain ⟨a, rfl, h1⟩ := r
    cases h
    exact ⟨a, rfl, fun W k e _ => ⟨ns.map V.int, (h1.mono e).sq, RepL.of_ints ns⟩⟩
  | loc l =>
    obtain ⟨a, h1, rfl⟩ := r
    have h : (match M[l]? with
      | some (some ds) => some { xs := ds, src := [(l, ds)] }
      | _ => none) = some it := h
    split at h
    · rename_i ds e
      cases h
      refine ⟨a, rfl, fun W k ex c => ?_⟩
      obtain ⟨a', xs, h2, h3, h4⟩ := k.there l ds (c (l, ds) (by simp))
      rw [ex.pla l a h1] at h2
      cases h2
      exact ⟨xs, .of h3, h4⟩
    · cases h
  | _ => cases h
theorem tup_at {W0 : Wd} {d : D} {v : V} {ds : List D} (r : Rep G W0 d v) (h : tupOf d = some ds) : ∃ a, v = .ref a ∧ ∀ W, Ext0 W0 W → ∃ xs, SqT G.K W.H a xs ∧ RepL G W ds xs := by
  cases d with
  | tup es =>
    obtain ⟨a, xs, rfl, h1, h2, r⟩ := r
    cases h
    exact ⟨a, rfl, fun W e => ⟨xs, .of (e.H a _ h1 h2).1, RepL.mono0 e r⟩⟩
  | kt es =>
    obtain ⟨a, xs, rfl, h1, r⟩ := r
    cases h
    exact ⟨a, rfl, fun W e => ⟨xs, h1.sq rfl, RepL.mono0 e r⟩⟩
  | _ => cases h
theorem seq_cases {d : D} {M : Mem} {it : ItD} (h : seqOf d M = some it) : (∃ ds, tupOf d = some ds ∧ it = { xs := ds }) ∨ lstOf d M = some it := by
  cases d with
  | tup ds => cases h; exact .inl ⟨ds, rfl, rfl⟩
  | kt ds => cases h; exact .inl ⟨ds, rfl, rfl⟩
  | lst ds => exact .inr h
  | scr ns => exact .inr h
  | loc l => exact .inr h
  | _ => cases h
/-- a sequence in the world as it is -/
theorem seq_now {W : Wd} {d : D} {v : V} {it : ItD} (k : WOk G W) (r : Rep G W d v) (h : seqOf d W.M = some it) : ∃ a xs, v = .ref a ∧ (SqL G.K W.H a xs ∨ SqT G.K W.H a xs) ∧ RepL G W it.xs xs := by
  rcases seq_cases h with ⟨ds, h1, rfl⟩ | h1
  · obtain ⟨a, xs, e, h2, h3⟩ := tup_of r h1
    exact ⟨a, xs, e, .inr h2, h3⟩
  · obtain ⟨a, e, f⟩ := lst_at r h1
    have hc : Chk it.src W.M := by
      cases d with
      | loc l =>
        have h1 : (match W.M[l]? with
          | some (some ds) => some { xs := ds, src := [(l, ds)] }
          | _ => none) = some it := h1
        split at h1
        · rename_i ds ed
          cases h1
          intro p hp
          have : p = (l, ds) := by simpa using hp
          rw [this]
          exact ed
        · cases h1
      | lst ds => cases h1; exact fun p hp => nomatch hp
      | scr ds => cases h1; exact fun p hp => nomatch hp
      | _ => cases h1
    obtain ⟨xs, h2, h3⟩ := f W k (Ext0.refl W) hc
    exact ⟨a, xs, e, .inl h2, h3⟩
@[simp] def iSeq (m : EM) : IM := fun τ M => (m τ M).bind fun d M1 => match seqOf d M1 with
  | some it => .ok it M1
  | none => .bad
def iLst (m : EM) : IM := fun τ M => (m τ M).bind fun d M1 => match lstOf d M1 with
  | some it => .ok it M1
  | none => .bad
def iTupD (m : EM) : IM := fun τ M => (m τ M).bind fun d M1 => match tupOf d with
  | some ds => .ok { xs := ds } M1
  | none => .bad
theorem itl_ok {K : PySem.W.Frag} {W0 : Wd} {a : Addr} {it : ItD} (hK : K = G.K) (f : ∀ W, WOk G W → Ext0 W0 W → Chk it.src W.M → ∃ xs, SqL G.K W.H a xs ∧ RepL G W it.xs xs) : ItOk G W0 (Itl K a) it := fun W k e c => by
  subst hK
  obtain ⟨xs, h1, h2⟩ := f W k e c
  refine ⟨fun i d hd => ?_, fun i hi => ⟨xs, h1, by rw [← h2.length]; exact hi⟩⟩
  obtain ⟨v, e1, e2⟩ := h2.get hd
  refine ⟨⟨xs, v, h1, e1⟩, fun x H' y => ?_⟩
  obtain ⟨rfl, y⟩ := y
  have := (y xs h1).symm.trans e1
  cases this
  exact ⟨W, rfl, rfl, k, Ext.refl W, e2⟩
theorem itt_ok {K : PySem.W.Frag} {W0 : Wd} {a : Addr} {ds : List D} (hK : K = G.K) (f : ∀ W, Ext0 W0 W → ∃ xs, SqT G.K W.H a xs ∧ RepL G W ds xs) : ItOk G W0 (Itt K a) { xs := ds } := fun W k e c => by
  subst hK
  obtain ⟨xs, h1, h2⟩ := f W e
  refine ⟨fun i d hd => ?_, fun i hi => ⟨xs, h1, by rw [← h2.length]; exact hi⟩⟩
  obtain ⟨v, e1, e2⟩ := h2.get hd
  refine ⟨⟨xs, v, h1, e1⟩, fun x H' y => ?_⟩
  obtain ⟨rfl, y⟩ := y
  have := (y xs h1).symm.trans e1
  cases this
  exact ⟨W, rfl, rfl, k, Ext.refl W, e2⟩
theorem di_lst {tg e : Expr} {m : EM} (h : DE Γ e m) : DI Γ tg e (iLst m) := pi_imp (pi_list h) fun σ H Q q => by
  obtain ⟨τ, W, rfl, he, ok, rs, h⟩ := q
  refine step he ok rs h fun d v W1 k1 e1 r1 h1 => ?_
  cases el : lstOf d W1.M with
  | none => rw [el] at h1; exact h1.elim
  | some it =>
    rw [el] at h1
    obtain ⟨a, rfl, f⟩ := lst_at r1 el
    have hs : seqOf d W1.M = some it := by
      cases d <;> first | exact el | cases el
    obtain ⟨a', xs, e', hq, _⟩ := seq_now k1 r1 hs
    cases e'
    have hc : ∃ xs, SqL G.K W1.H a xs := by
      cases d with
      | lst ds =>
        obtain ⟨b, ys, e2, h2, h3, _⟩ := r1
        cases e2
        exact ⟨ys, .of h2⟩
      | scr ns =>
        obtain ⟨b, e2, h2⟩ := r1
        cases e2
        exact ⟨_, h2.sq⟩
      | loc l =>
        have el : (match W1.M[l]? with
          | some (some ds) => some { xs := ds, src := [(l, ds)] }
          | _ => none) = some it := el
        split at el
        · rename_i ds ed
          obtain ⟨b, h2, e2⟩ := r1
          cases e2
          obtain ⟨b', ys, h3, h4, _⟩ := k1.there l ds ed
          rw [h2] at h3
          cases h3
          exact ⟨ys, .of h4⟩
        · cases el
      | _ => cases el
    exact ⟨a, rfl, by rw [Γ.hK]; exact hc, h1 (Itl X.K a) W1 rfl k1 (Ext.refl W1) (itl_ok Γ.hK f)⟩
theorem di_tup {tg e : Expr} {m : EM} (h : DE Γ e m) : DI Γ tg e (iTupD m) := pi_imp (pi_tup h) fun σ H Q q => by
  obtain ⟨τ, W, rfl, he, ok, rs, h⟩ := q
  refine step he ok rs h fun d v W1 k1 e1 r1 h1 => ?_
  cases el : tupOf d with
  | none => rw [el] at h1; exact h1.elim
  | some ds =>
    rw [el] at h1
    obtain ⟨a, rfl, f⟩ := tup_at r1 el
    obtain ⟨xs, h2, _⟩ := f W1 (Ext0.refl W1)
    exact ⟨a, rfl, ⟨xs, by rw [Γ.hK]; exact h2⟩, h1 (Itt X.K a) W1 rfl k1 (Ext.refl W1) (itt_ok Γ.hK f)⟩
/-- a list or a tuple -/
theorem pi_or {tg e : Expr} {t : TE} (h : PE X e t) : PI X tg e (fun σ H R => t σ H fun x H1 => ∃ a, x = .ref a ∧ ((∃ xs, SqL X.K H1 a xs) ∧ R (Itl X.K a) H1 ∨ (∃ xs, SqT X.K H1 a xs) ∧ R (Itt X.K a) H1)) := by
  refine ⟨fun pins s σ H R I h' => ?_⟩
  refine thn (h.run pins s σ H _ I h') fun v s1 ⟨x, H1, I1, r1, q1⟩ => ?_
  obtain ⟨a, e, q⟩ := q1
  subst e
  rcases q with ⟨⟨xs, hq⟩, q⟩ | ⟨⟨xs, hq⟩, q⟩
  · cases r1
    obtain ⟨its, rv, p, hz⟩ := I1.list hq
    refine wpAny_pyIter_list p.isList ?_
    refine ⟨s1.heap.objs.size, [s1.heap.objs.size], _, _, H1, rfl, I1.kept (t' := s1.toks) fun b o e => Heap.get?_push_of_some _ e, turn_list a _, ⟨_, Heap.get?_push_size _ rfl, rfl, rfl⟩, fun b hb => ?_, q⟩
    have e : b = s1.heap.objs.size := by simpa using hb
    subst e
    exact I1.fpOk (Nat.le_refl _) (I1.hok.fresh (Nat.le_refl _))
  · cases r1
    obtain ⟨its, rv, p, hz⟩ := I1.tuple hq
    refine wpAny_pyIter_tuple (show s1.heap.IsTuple a its.toArray from p) ?_
    refine ⟨s1.heap.objs.size, [s1.heap.objs.size], _, _, H1, rfl, I1.kept (t' := s1.toks) fun b o e => Heap.get?_push_of_some _ e, turn_tuple a _, ⟨_, Heap.get?_push_size _ rfl, rfl, rfl⟩, fun b hb => ?_, q⟩
    have e : b = s1.heap.objs.size := by simpa using hb
    subst e
    exact I1.fpOk (Nat.le_refl _) (I1.hok.fresh (Nat.le_refl _))
theorem lst_sq {W : Wd} {d : D} {a : Addr} {it : ItD} (k1 : WOk G W) (r1 : Rep G W d (.ref a)) (el : lstOf d W.M = some it) : ∃ xs, SqL G.K W.H a xs := by
  cases d with
  | lst ds =>
    obtain ⟨b, ys, e2, h2, h3, _⟩ := r1
    cases e2
    exact ⟨ys, .of h2⟩
  | scr ns =>
    obtain ⟨b, e2, h2⟩ := r1
    cases e2
    exact ⟨_, h2.sq⟩
  | loc l =>
    have el : (match W.M[l]? with
      | some (some ds) => some { xs := ds, src := [(l, ds)] }
      | _ => none) = some it := el
    split at el
    · rename_i ds ed
      obtain ⟨b, h2, e2⟩ := r1
      cases e2
      obtain ⟨b', ys, h3, h4, _⟩ := k1.there l ds ed
      rw [h2] at h3
      cases h3
      exact ⟨ys, .of h4⟩
    · cases el
  | _ => cases el
theorem di_seq {tg e : Expr} {m : EM} (h : DE Γ e m) : DI Γ tg e (iSeq m) := pi_imp (pi_or h) fun σ H Q q => by
  obtain ⟨τ, W, rfl, he, ok, rs, h⟩ := q
  refine step he ok rs h fun d v W1 k1 e1 r1 h1 => ?_
  cases el : seqOf d W1.M with
  | none => rw [el] at h1; exact h1.elim
  | some it =>
    rw [el] at h1
    rcases seq_cases el with ⟨ds, h2, rfl⟩ | h2
    · obtain ⟨a, rfl, f⟩ := tup_at r1 h2
      obtain ⟨xs, h3, _⟩ := f W1 (Ext0.refl W1)
      exact ⟨a, rfl, .inr ⟨⟨xs, by rw [Γ.hK]; exact h3⟩, h1 (Itt X.K a) W1 rfl k1 (Ext.refl W1) (itt_ok Γ.hK f)⟩⟩
    · obtain ⟨a, rfl, f⟩ := lst_at r1 h2
      exact ⟨a, rfl, .inl ⟨by rw [Γ.hK]; exact lst_sq k1 r1 h2, h1 (Itl X.K a) W1 rfl k1 (Ext.refl W1) (itl_ok Γ.hK f)⟩⟩
/-- ranges -/
theorem rangeD_ex (lo : Int) (n : Nat) : ∃ ds : List D, ds = (List.range n).map fun (i : Nat) => D.int (lo + (i : Int)) := ⟨_, rfl⟩
/-- a range's items (kept shut, so that nobody unfolds a long one) -/
noncomputable def rangeD (lo : Int) (n : Nat) : List D := Classical.choose (rangeD_ex lo n)
theorem rangeD_eq (lo : Int) (n : Nat) : rangeD lo n = (List.range n).map fun (i : Nat) => D.int (lo + (i : Int)) := Classical.choose_spec (rangeD_ex lo n)
theorem rangeD_get {lo : Int} {n i : Nat} {d : D} (h : (rangeD lo n)[i]? = some d) : i < n ∧ d = .int (lo + (i : Int)) := by
  rw [rangeD_eq] at h
  rw [List.getElem?_map] at h
  by_cases hi : i < n
  · rw [List.getElem?_range hi] at h
    cases h
    exact ⟨hi, rfl⟩
  · rw [List.getElem?_eq_none (by simpa using hi)] at h
    cases h
theorem itr_ok {W0 : Wd} {lo : Int} {n : Nat} : ItOk G W0 (Itr lo n) { xs := rangeD lo n } := fun W k e c => by
  refine ⟨fun i d hd => ?_, fun i hi => ?_⟩
  · obtain ⟨h1, rfl⟩ := rangeD_get hd
    refine ⟨h1, fun x H' y => ?_⟩
    obtain ⟨rfl, rfl⟩ := y
    exact ⟨W, rfl, rfl, k, Ext.refl W, rfl⟩
  · have : (rangeD lo n).length = n := by simp [rangeD_eq]
    show n ≤ i
    rw [← this]
    exact hi
/-- numbers that a range takes -/
def rngOk (j : Int) : Prop := -(2 ^ 62) ≤ j ∧ j < 2 ^ 62
noncomputable instance rngOkD (j : Int) : Decidable (rngOk j) := Classical.propDecidable _
noncomputable def iRange1 (a : AM) : IM := fun τ M => (a τ M).bind fun ds M1 => match ds with
  | [.int j] => if rngOk j then .ok { xs := rangeD 0 j.toNat } M1 else .bad
  | _ => .bad
noncomputable def iRange2 (a : AM) : IM := fun τ M => (a τ M).bind fun ds M1 => match ds with
  | [.int i, .int j] => if rngOk i ∧ rngOk j then .ok { xs := rangeD i (j - i).toNat } M1 else .bad
  | _ => .bad
theorem RepL.one {W : Wd} {d : D} {xs : List V} (r : RepL G W [d] xs) : ∃ v, xs = [v] ∧ Rep G W d v := by
  obtain ⟨v, r', rfl, h1, h2⟩ := r
  have h2 : r' = [] := h2
  rw [h2]
  exact ⟨v, rfl, h1⟩
theorem RepL.two {W : Wd} {d e : D} {xs : List V} (r : RepL G W [d, e] xs) : ∃ v u, xs = [v, u] ∧ Rep G W d v ∧ Rep G W e u := by
  obtain ⟨v, r', rfl, h1, h2⟩ := r
  obtain ⟨u, rfl, h3⟩ := RepL.one h2
  exact ⟨v, u, rfl, h1, h3⟩
theorem di_range1 {tg a : Expr} {ma : AM} {p pos : Pos} (hm : X.mg "range" = none) (ha : DA Γ [a] ma) (hg : Gl X "range" := by rfl) (hs : starEach [a] X.env = [(false, eval a X.env)] := by rfl) : DI Γ tg (.Call (.Name "range" p) [a] [] pos) (iRange1 ma) :=
  pi_imp (pi_range1 hg hm ha hs) fun σ H Q q => by
  obtain ⟨τ, W, rfl, he, ok, rs, h⟩ := q
  refine step he ok rs h fun d v W1 k1 e1 r1 h1 => ?_
  split at h1
  · rename_i j
    split at h1
    · rename_i hj
      obtain ⟨v, rfl, r2⟩ := RepL.one r1
      cases r2
      exact ⟨j, rfl, hj.1, hj.2, h1 _ W1 rfl k1 (Ext.refl W1) itr_ok⟩
    · exact h1.elim
  · exact h1.elim
theorem di_range2 {tg a b : Expr} {ma : AM} {p pos : Pos} (hm : X.mg "range" = none) (ha : DA Γ [a, b] ma) (hg : Gl X "range" := by rfl) (hs : starEach [a, b] X.env = [(false, eval a X.env), (false, eval b X.env)] := by rfl) (hs2 : starEach [b] X.env = [(false, eval b X.env)] := by rfl) :
    DI Γ tg (.Call (.Name "range" p) [a, b] [] pos) (iRange2 ma) := pi_imp (pi_range2 hg hm ha hs hs2) fun σ H Q q => by
  obtain ⟨τ, W, rfl, he, ok, rs, h⟩ := q
  refine step he ok rs h fun d v W1 k1 e1 r1 h1 => ?_
  split at h1
  · rename_i i j
    split at h1
    · rename_i hj
      obtain ⟨v, u, rfl, r2, r3⟩ := RepL.two r1
      cases r2
      cases r3
      exact ⟨i, j, rfl, ⟨hj.1.1, hj.1.2, hj.2.1, hj.2.2⟩, h1 _ W1 rfl k1 (Ext.refl W1) itr_ok⟩
    · exact h1.elim
  · exact h1.elim

/-! ### for -/
noncomputable def forL (src : List (Nat × List D)) (g : GM) (b : SM) : List D → SM
  | [], τ, M => if Chk src M then .nx τ M else .bad
  | d :: ds, τ, M => if Chk src M then match g d τ M with
      | .ok τ1 M1 => match b τ1 M1 with
        | .nx τ' M' => forL src g b ds τ' M'
        | .ct τ' M' => forL src g b ds τ' M'
        | .bk τ' M' => .nx τ' M'
        | r => r
      | _ => .bad
    else .bad
@[simp] noncomputable def sFor (i : IM) (g : GM) (b : SM) : SM := fun τ M => andS (i τ M) τ fun it M1 => forL it.src g b it.xs τ M1
theorem ds_for {tg e : Expr} {body : List Stmt} {i : IM} {g : GM} {b : SM} (hi : DI Γ tg e i) (hg : DG Γ tg g) (hb : DSs Γ body b)
    (hp : PassesOwn (model X.prog X.w) X.A X.env X.xe := by first | exact PassesOwn.never | exact passes_of rfl | assumption) (hc : X.calm = true := by rfl)
    (hs : ∀ x, foldedSetIterable e X.env x = pure x := by intro _; rfl) : DS Γ (.For tg e body [] pos) (sFor i g b) := ps_imp (ps_for hp hc hi hg hb hs) fun Dn σ H q => by
  obtain ⟨τ, W, rfl, he, ok, rs, h⟩ := q
  refine stepS he ok rs h fun it J W1 k1 e1 r1 h1 => ?_
  refine ⟨fun i m σ H => i + m = it.xs.length ∧ ∃ τ W2, W2.H = H ∧ WOk G W2 ∧ Ext W1 W2 ∧ RelS G W2 τ σ ∧ pS G Γ.W W2 (forL it.src g b (it.xs.drop i) τ W2.M) Dn,
    ⟨it.xs.length, by omega, τ, W1, rfl, k1, Ext.refl W1, rs.mono e1, h1⟩, ?_⟩
  rintro i m σ2 H2 ⟨em, τ2, W2, rfl, k2, e2, s2, h2⟩
  by_cases hi : i < it.xs.length
  · rw [List.drop_eq_getElem_cons hi] at h2
    unfold forL at h2
    split at h2
    · rename_i hc2
      obtain ⟨f1, f2⟩ := r1 W2 k2 e2.toExt0 hc2
      obtain ⟨g1, g2⟩ := f1 i it.xs[i] (List.getElem?_eq_getElem hi)
      refine .inr ⟨g1, fun σ' H' => ∃ τ W3, W3.H = H' ∧ WOk G W3 ∧ Ext W1 W3 ∧ RelS G W3 τ σ' ∧ pS G Γ.W W3 (forL it.src g b (it.xs.drop (i + 1)) τ W3.M) Dn, fun σ' H' hN => ⟨m - 1, by omega, by omega, hN⟩, fun x H' hy => ?_⟩
      obtain ⟨W3, rfl, m3, k3, e3, r3⟩ := g2 x H' hy
      refine ⟨it.xs[i], τ2, W3, rfl, (e3.ea.trans (e2.ea.trans (e1.ea.trans he))), k3, s2.mono e3, r3, ?_⟩
      rw [m3]
      cases eg : g it.xs[i] τ2 W2.M with
      | ok τ3 M3 =>
        rw [eg] at h2
        intro σ4 W4 m4 k4 e4 s4
        refine ⟨τ3, W4, rfl, (e4.ea.trans (e3.ea.trans (e2.ea.trans (e1.ea.trans he)))), k4, s4, ?_⟩
        rw [m4]
        have e24 := e3.trans e4
        have h2 : pS G Γ.W W2 (match b τ3 M3 with
          | .nx τ' M' => forL it.src g b (it.xs.drop (i + 1)) τ' M'
          | .ct τ' M' => forL it.src g b (it.xs.drop (i + 1)) τ' M'
          | .bk τ' M' => .nx τ' M'
          | r => r) Dn := h2
        cases eb : b τ3 M3 with
        | nx τ' M' =>
          rw [eb] at h2
          exact fun σ5 W5 m5 k5 e5 s5 => ⟨τ', W5, rfl, k5, (e2.trans e24).trans e5, s5, by rw [m5]; exact h2.ext (e24.trans e5)⟩
        | ct τ' M' =>
          rw [eb] at h2
          exact fun σ5 W5 m5 k5 e5 s5 => ⟨τ', W5, rfl, k5, (e2.trans e24).trans e5, s5, by rw [m5]; exact h2.ext (e24.trans e5)⟩
        | bk τ' M' =>
          rw [eb] at h2
          exact fun σ5 W5 m5 k5 e5 s5 => h2 σ5 W5 m5 k5 (e24.trans e5) s5
        | rt d M' =>
          rw [eb] at h2
          exact fun v W5 m5 k5 e5 s5 => h2 v W5 m5 k5 (e24.trans e5) s5
        | exc x τ' M' =>
          rw [eb] at h2
          exact fun c dd σ5 W5 m5 k5 e5 s5 r5 => h2 c dd σ5 W5 m5 k5 (e24.trans e5) s5 r5
        | bad =>
          rw [eb] at h2
          exact h2
      | exc x M => rw [eg] at h2; exact h2.elim
      | bad => rw [eg] at h2; exact h2.elim
    · exact h2.elim
  · rw [List.drop_of_length_le (by omega)] at h2
    unfold forL at h2
    split at h2
    · rename_i hc2
      obtain ⟨f1, f2⟩ := r1 W2 k2 e2.toExt0 hc2
      exact .inl ⟨f2 i (by omega), h2 σ2 W2 rfl k2 (Ext.refl W2) s2⟩
    · exact h2.elim
end
end DM

/-! DM: comprehensions, while. -/
namespace DM
open PySem PySem.Spec PyProof.Rows L2
section
variable {G : Gd} {W W' : Wd}
/-! ### a list that is being made -/
abbrev Wd.push (W : Wd) (p : Addr) : Wd := { W with H := upd W.H p (.lst []), hid := p :: W.hid }
theorem own_push {p a : Addr} (h : (W.push p).own a) : a = p ∨ W.own a := by
  rcases h with h | h
  · rcases List.mem_cons.mp h with h | h
    · exact .inl h
    · exact .inr (.inl h)
  · exact .inr (.inr h)
theorem ext_push {p : Addr} (k : WOk G W) (hp : W.H p = none) : Ext0 W (W.push p) :=
  ⟨fun _ _ h => h, fun a o h n => ⟨(upd_ne (ne_of_none h hp)).trans h, fun q => by
    rcases own_push q with q | q
    · rw [q, hp] at h; cases h
    · exact n q⟩, rfl⟩
theorem ok_push {p : Addr} (k : WOk G W) (hp : W.H p = none) : WOk G (W.push p) := by
  refine ⟨k.len, k.inj, fun l ds h => ?_, fun a h => ?_, fun a h l ds hm hpi => ?_, ?_⟩
  · obtain ⟨a, xs, h1, h2, h3⟩ := k.there l ds h
    exact ⟨a, xs, h1, (upd_ne (ne_of_none h2 hp)).trans h2, RepL.mono0 (ext_push k hp) h3⟩
  · rcases List.mem_cons.mp h with h | h
    · subst h; exact ⟨[], upd_same⟩
    · obtain ⟨xs, e⟩ := k.hidT a h
      exact ⟨xs, (upd_ne (ne_of_none e hp)).trans e⟩
  · rcases List.mem_cons.mp h with h | h
    · subst h
      obtain ⟨b, xs, h1, h2, _⟩ := k.there l ds hm
      have hpi : W.pla[l]? = some a := hpi
      rw [hpi] at h1
      cases h1
      rw [hp] at h2
      cases h2
    · exact k.hidP a h l ds hm hpi
  · refine List.nodup_cons.mpr ⟨fun h => ?_, k.hidN⟩
    obtain ⟨xs, e⟩ := k.hidT p h
    rw [hp] at e
    cases e
abbrev Wd.grow (W : Wd) (p : Addr) (xs : List V) : Wd := { W with H := upd W.H p (.lst xs) }
theorem ext_grow {p : Addr} {xs : List V} (hp : p ∈ W.hid) : Ext0 W (W.grow p xs) :=
  ⟨fun _ _ h => h, fun a o h n => ⟨(upd_ne (show a ≠ p from fun e => n (by rw [e]; exact .inl hp))).trans h, n⟩, rfl⟩
theorem ok_grow {p : Addr} {xs : List V} (k : WOk G W) (hp : p ∈ W.hid) : WOk G (W.grow p xs) := by
  refine ⟨k.len, k.inj, fun l ds h => ?_, fun a h => ?_, k.hidP, k.hidN⟩
  · obtain ⟨a, ys, h1, h2, h3⟩ := k.there l ds h
    exact ⟨a, ys, h1, (upd_ne (show a ≠ p from fun e => k.hidP p hp l ds h (by rw [← e]; exact h1))).trans h2, RepL.mono0 (ext_grow hp) h3⟩
  · by_cases e : a = p
    · subst e; exact ⟨xs, upd_same⟩
    · obtain ⟨ys, q⟩ := k.hidT a h
      exact ⟨ys, (upd_ne e).trans q⟩
abbrev Wd.pop (W : Wd) (h : List Addr) : Wd := { W with hid := h }
theorem own_pop {p : Addr} {h : List Addr} (e : W.hid = p :: h) {a : Addr} (q : (W.pop h).own a) : W.own a := by
  rcases q with q | q
  · exact .inl (by rw [e]; exact List.mem_cons_of_mem _ q)
  · exact .inr q
theorem ext_pop {p : Addr} {h : List Addr} (e : W.hid = p :: h) : Ext0 W (W.pop h) := ⟨fun _ _ h => h, fun a o h n => ⟨h, fun q => n (own_pop e q)⟩, rfl⟩
theorem ok_pop {p : Addr} {h : List Addr} (k : WOk G W) (e : W.hid = p :: h) : WOk G (W.pop h) := by
  have hN := k.hidN
  rw [e] at hN
  exact ⟨k.len, k.inj, fun l ds m => let ⟨a, xs, h1, h2, h3⟩ := k.there l ds m; ⟨a, xs, h1, h2, RepL.mono0 (ext_pop e) h3⟩, fun a m => k.hidT a (by rw [e]; exact List.mem_cons_of_mem _ m),
    fun a m => k.hidP a (by rw [e]; exact List.mem_cons_of_mem _ m), (List.nodup_cons.mp hN).2⟩
theorem free_pop {p : Addr} {h : List Addr} (k : WOk G W) (e : W.hid = p :: h) : ¬ (W.pop h).own p := by
  have hN := k.hidN
  rw [e] at hN
  rintro (q | ⟨l, ds, h1, h2⟩)
  · exact (List.nodup_cons.mp hN).1 q
  · exact k.hidP p (by rw [e]; exact List.mem_cons_self) l ds h1 h2
/-- a list becomes a place -/
abbrev Wd.place (W : Wd) (p : Addr) (ds : List D) : Wd := { W with pla := W.pla ++ [p], M := W.M ++ [some ds] }
theorem own_place {p : Addr} {ds : List D} (k : WOk G W) {a : Addr} (h : (W.place p ds).own a) : W.own a ∨ a = p := by
  rcases h with h | ⟨l, es, h1, h2⟩
  · exact .inl (.inl h)
  have kl := k.len
  rcases alloc_at (show (W.M ++ [some ds])[l]? = some (some es) from h1) with ⟨z, y⟩ | ⟨z, y⟩ <;> rcases alloc_at (show (W.pla ++ [p])[l]? = some a from h2) with ⟨u, v⟩ | ⟨u, v⟩ <;> first
    | exact .inl (.inr ⟨l, es, y, v⟩)
    | exact .inr v
    | omega
theorem ok_place {p : Addr} {xs : List V} {ds : List D} (k : WOk G W) (hp : W.H p = some (.lst xs)) (no : ¬ W.own p) (r : RepL G (W.place p ds) ds xs) (mono : ∀ (es : List D) (ys : List V), RepL G W es ys → RepL G (W.place p ds) es ys) : WOk G (W.place p ds) := by
  have kl := k.len
  have used : ∀ l a, W.pla[l]? = some a → a = p → ∀ ds, W.M[l]? = some (some ds) → False := fun l a h e ds hm => no (.inr ⟨l, ds, hm, e ▸ h⟩)
  refine ⟨by simp [k.len], fun l l' a es es' m m' h h' => ?_, fun l es h => ?_, k.hidT, fun a ha l es m h => ?_, k.hidN⟩
  · rcases alloc_at (show (W.M ++ [some ds])[l]? = some (some es) from m) with ⟨z, y⟩ | ⟨z, y⟩ <;> rcases alloc_at (show (W.M ++ [some ds])[l']? = some (some es') from m') with ⟨z', y'⟩ | ⟨z', y'⟩ <;>
      rcases alloc_at (show (W.pla ++ [p])[l]? = some a from h) with ⟨u, v⟩ | ⟨u, v⟩ <;> rcases alloc_at (show (W.pla ++ [p])[l']? = some a from h') with ⟨u', v'⟩ | ⟨u', v'⟩ <;> first
      | exact k.inj l l' a es es' y y' v v'
      | exact (used _ _ v v' _ y).elim
      | exact (used _ _ v' v _ y').elim
      | omega
  · rcases alloc_at (show (W.M ++ [some ds])[l]? = some (some es) from h) with ⟨z, y⟩ | ⟨z, y⟩
    · obtain ⟨a, ys, h1, h2, h3⟩ := k.there l es y
      refine ⟨a, ys, ?_, h2, mono _ _ h3⟩
      show (W.pla ++ [p])[l]? = some a
      rw [List.getElem?_append_left (List.getElem?_eq_some_iff.mp h1).1]
      exact h1
    · cases y
      refine ⟨p, xs, ?_, hp, r⟩
      show (W.pla ++ [p])[l]? = some p
      rw [z, ← k.len]
      simp
  · rcases alloc_at (show (W.M ++ [some ds])[l]? = some (some es) from m) with ⟨z, y⟩ | ⟨z, y⟩ <;> rcases alloc_at (show (W.pla ++ [p])[l]? = some a from h) with ⟨u, v⟩ | ⟨u, v⟩ <;> first
      | exact k.hidP a ha l es y v
      | exact no (.inl (v ▸ ha))
      | omega
/-- the made list comes out: as a tree, or as a place -/
theorem made_out {W1 W3 : Wd} {p : Addr} {zs : List D} {zv : List V} {own : Bool} {Q : VK} {σ : L2.St} {Wx : WX} (hp : W1.H p = none) (k1 : WOk G W1) (k3 : WOk G W3) (e : Ext0 W1 W3) (eh : W3.hid = p :: W1.hid) (hh : ∀ a, a ∈ W1.hid → W3.H a = W1.H a) (hz : W3.H p = some (.lst zv)) (r : RepL G W3 zs zv)
    (h : pR G Wx (Rep G) W1 σ (DM.fin own (some (.l zs)) W3.M) Q) : Q (.ref p) W3.H := by
  have k4 := ok_pop k3 eh
  have no := free_pop k3 eh
  have e4 : Ext W1 (W3.pop W1.hid) := ⟨e.trans (ext_pop eh), rfl, hh⟩
  have r4 : RepL G (W3.pop W1.hid) zs zv := RepL.mono0 (ext_pop eh) r
  cases own with
  | false => exact h (.ref p) (W3.pop W1.hid) rfl k4 e4 ⟨p, zv, rfl, hz, no, r4⟩
  | true =>
    have k4l := k4.len
    have pi : ∀ (l : Nat) (a : Addr), (W3.pop W1.hid).pla[l]? = some a → ((W3.pop W1.hid).place p zs).pla[l]? = some a := fun l a h => by
      show ((W3.pop W1.hid).pla ++ [p])[l]? = some a
      rw [List.getElem?_append_left (List.getElem?_eq_some_iff.mp h).1]
      exact h
    have e5 : Ext W1 ((W3.pop W1.hid).place p zs) := by
      refine ⟨⟨fun l a h => pi l a (e4.pla l a h), fun a o h n => ?_, e4.ea⟩, rfl, hh⟩
      obtain ⟨h1, n1⟩ := e4.H a o h n
      refine ⟨h1, fun q => ?_⟩
      rcases own_place k4 q with q | q
      · exact n1 q
      · rw [q, hp] at h; cases h
    -- trees of zs may not lean on p itself: they do not, as p was being made
    have dry : ∀ (W5 W6 : Wd), W5.H = W6.H → W5.ea = W6.ea → (∀ (l : Nat) (a : Addr), W5.pla[l]? = some a → W6.pla[l]? = some a) → (∀ a, W6.own a → W5.own a ∨ a = p) → W5.hid = p :: W6.hid → Ext0 W5 W6 := fun W5 W6 h1 h2 h3 h4 h5 =>
      ⟨h3, fun a o q n => ⟨by rw [← h1]; exact q, fun z => (h4 a z).elim n fun y => n (y ▸ .inl (by rw [h5]; exact List.mem_cons_self))⟩, h2.symm⟩
    have e35 : Ext0 W3 ((W3.pop W1.hid).place p zs) := dry W3 _ rfl rfl (fun l a h => pi l a h) (fun a q => (own_place k4 q).imp (own_pop eh) id) eh
    have r5 : RepL G ((W3.pop W1.hid).place p zs) zs zv := RepL.mono0 e35 r
    have k5 : WOk G ((W3.pop W1.hid).place p zs) := by
      have kl := k3.len
      refine ⟨by simp [kl], ?_, ?_, k4.hidT, ?_, k4.hidN⟩
      · intro l l' a es es' m m' h h'
        have used : ∀ l a, W3.pla[l]? = some a → a = p → ∀ ds, W3.M[l]? = some (some ds) → False := fun l a h e ds hm => no (.inr ⟨l, ds, hm, e ▸ h⟩)
        rcases alloc_at (show (W3.M ++ [some zs])[l]? = some (some es) from m) with ⟨z, y⟩ | ⟨z, y⟩ <;> rcases alloc_at (show (W3.M ++ [some zs])[l']? = some (some es') from m') with ⟨z', y'⟩ | ⟨z', y'⟩ <;>
          rcases alloc_at (show (W3.pla ++ [p])[l]? = some a from h) with ⟨u, v⟩ | ⟨u, v⟩ <;> rcases alloc_at (show (W3.pla ++ [p])[l']? = some a from h') with ⟨u', v'⟩ | ⟨u', v'⟩ <;> first
          | exact k3.inj l l' a es es' y y' v v'
          | exact (used _ _ v v' _ y).elim
          | exact (used _ _ v' v _ y').elim
          | omega
      · intro l es h
        rcases alloc_at (show (W3.M ++ [some zs])[l]? = some (some es) from h) with ⟨z, y⟩ | ⟨z, y⟩
        · obtain ⟨a, ys, h1, h2, h3⟩ := k3.there l es y
          exact ⟨a, ys, pi l a h1, h2, RepL.mono0 e35 h3⟩
        · cases y
          refine ⟨p, zv, ?_, hz, r5⟩
          show (W3.pla ++ [p])[l]? = some p
          rw [z, ← kl]
          simp
      · intro a ha l es m h
        rcases alloc_at (show (W3.M ++ [some zs])[l]? = some (some es) from m) with ⟨z, y⟩ | ⟨z, y⟩ <;> rcases alloc_at (show (W3.pla ++ [p])[l]? = some a from h) with ⟨u, v⟩ | ⟨u, v⟩ <;> first
          | exact k4.hidP a ha l es y v
          | exact no (.inl (v ▸ ha))
          | omega
    refine h (.ref p) ((W3.pop W1.hid).place p zs) rfl k5 e5 ⟨p, ?_, rfl⟩
    show (W3.pla ++ [p])[W3.M.length]? = some p
    rw [← k3.len]
    simp
end

/-! ### the targets of a comprehension -/
def wipeD (τ : DSt) : List Nat → DSt
  | [] => τ
  | v :: vs => (wipeD τ vs).set v none
section
variable {G : Gd} {X : Cx} {Γ : DC G X} {pos : Pos}
theorem RelS.unset {W : Wd} {τ : DSt} {σ : L2.St} (h : RelS G W τ σ) (i : Nat) : RelS G W (τ.set i none) (σ.set i none) := by
  refine ⟨by simp [h.1], fun j e q => ?_⟩
  by_cases hj : i = j
  · subst hj
    by_cases hl : i < τ.length
    · rw [List.getElem?_set_self hl] at q; cases q
    · rw [List.getElem?_eq_none (by simpa using hl)] at q; cases q
  · rw [List.getElem?_set_ne hj] at q
    rw [List.getElem?_set_ne hj]
    exact h.2 j e q
theorem RelS.wipe {W : Wd} {τ : DSt} {σ : L2.St} (h : RelS G W τ σ) : ∀ vs, RelS G W (wipeD τ vs) (L2.wipe σ vs)
  | [] => h
  | v :: vs => (RelS.wipe h vs).unset v
theorem wipe_get (σ : L2.St) (j : Nat) : ∀ vs : List Nat, (L2.wipe σ vs)[j]? = if j ∈ vs ∧ j < σ.length then some none else σ[j]?
  | [] => by simp [L2.wipe]
  | v :: vs => by
    unfold L2.wipe
    by_cases hv : v = j
    · subst hv
      by_cases hl : v < σ.length
      · rw [List.getElem?_set_self (by rw [wipe_length]; exact hl)]
        simp [hl]
      · rw [List.getElem?_eq_none (by rw [List.length_set, wipe_length]; omega)]
        simp [hl]
    · rw [List.getElem?_set_ne hv, wipe_get σ j vs]
      have : j ≠ v := fun e => hv e.symm
      simp [this]
theorem wipe_set {σ : L2.St} {i : Nat} {x : Option V} {vs : List Nat} (h : i ∈ vs) : L2.wipe (σ.set i x) vs = L2.wipe σ vs := by
  apply List.ext_getElem?
  intro j
  rw [wipe_get, wipe_get, List.length_set]
  by_cases hj : i = j
  · subst hj
    by_cases hl : i < σ.length
    · simp [h, hl]
    · simp [h, hl]
  · rw [List.getElem?_set_ne hj]
def GWp (G : Gd) (vs : List Nat) (g : TG) (m : GM) : Prop := ∀ (W : Wd) (τ : DSt) (σ : L2.St) (d : D) (v : V) (Q : L2.St → Hp → Prop), WOk G W → RelS G W τ σ → Rep G W d v →
  (match m d τ W.M with | .ok τ' M' => M' = W.M ∧ ∀ σ', RelS G W τ' σ' → L2.wipe σ' vs = L2.wipe σ vs → Q σ' W.H | _ => False) → g v σ W.H Q
def GsWp (G : Gd) (vs : List Nat) (g : TGs) (m : GsM) : Prop := ∀ (W : Wd) (τ : DSt) (σ : L2.St) (d : List D) (v : List V) (Q : L2.St → Hp → Prop), WOk G W → RelS G W τ σ → RepL G W d v →
  (match m d τ W.M with | .ok τ' M' => M' = W.M ∧ ∀ σ', RelS G W τ' σ' → L2.wipe σ' vs = L2.wipe σ vs → Q σ' W.H | _ => False) → g v σ W.H Q
theorem gw_name {vs : List Nat} (i : Nat) (h : i ∈ vs := by decide) : GWp G vs (gName i) (mName i) := fun W τ σ d v Q k rs r q => q.2 _ (rs.set i r) (wipe_set h)
theorem gws_nil {vs : List Nat} : GsWp G vs gNil mNil := fun W τ σ d v Q k rs r q => by
  cases d with
  | nil => exact ⟨r, q.2 _ rs rfl⟩
  | cons _ _ => exact q.elim
theorem gws_cons {vs : List Nat} {g : TG} {m : GM} {gs : TGs} {ms : GsM} (h1 : GWp G vs g m) (h2 : GsWp G vs gs ms) (hM : ∀ d τ M τ' M', m d τ M = .ok τ' M' → M' = M) : GsWp G vs (gCons g gs) (mCons m ms) := fun W τ σ d v Q k rs r q => by
  cases d with
  | nil => exact q.elim
  | cons d ds =>
    obtain ⟨v, us, rfl, r1, r2⟩ := r
    refine ⟨v, us, rfl, h1 W τ σ d v _ k rs r1 ?_⟩
    have q : (match (m d τ W.M).bind fun τ1 M1 => ms ds τ1 M1 with | .ok τ' M' => M' = W.M ∧ ∀ σ', RelS G W τ' σ' → L2.wipe σ' vs = L2.wipe σ vs → Q σ' W.H | _ => False) := q
    cases e : m d τ W.M with
    | ok τ1 M1 =>
      rw [e] at q
      have hm := hM _ _ _ _ _ e
      subst hm
      have q : (match ms ds τ1 W.M with | .ok τ' M' => M' = W.M ∧ ∀ σ', RelS G W τ' σ' → L2.wipe σ' vs = L2.wipe σ vs → Q σ' W.H | _ => False) := q
      refine ⟨rfl, fun σ1 s1 w1 => h2 W τ1 σ1 ds us Q k s1 r2 ?_⟩
      cases e2 : ms ds τ1 W.M with
      | ok τ2 M2 =>
        rw [e2] at q
        exact ⟨q.1, fun σ2 s2 w2 => q.2 σ2 s2 (w2.trans w1)⟩
      | exc x M => rw [e2] at q; exact q
      | bad => rw [e2] at q; exact q
    | exc x M => rw [e] at q; exact q.elim
    | bad => rw [e] at q; exact q.elim
theorem hm_name (i : Nat) : ∀ d τ M τ' M', mName i d τ M = .ok τ' M' → M' = M := fun d τ M τ' M' h => by
  cases h
  rfl
theorem gw_tup {K : PySem.W.Frag} {vs : List Nat} {n : Nat} {gs : TGs} {ms : GsM} (hK : K = G.K) (h : GsWp G vs gs ms) : GWp G vs (gTup K n gs) (mTup n ms) := fun W τ σ d v Q k rs r q => by
  subst hK
  have key : ∃ ds, tupOf d = some ds ∧ ds.length = n ∧ (match ms ds τ W.M with | .ok τ' M' => M' = W.M ∧ ∀ σ', RelS G W τ' σ' → L2.wipe σ' vs = L2.wipe σ vs → Q σ' W.H | _ => False) := by
    unfold mTup at q
    split at q
    · rename_i q0
      split at q0
      · split at q0
        · exact ⟨_, rfl, by assumption, by rw [q0]; exact q⟩
        · cases q0
      · split at q0
        · exact ⟨_, rfl, by assumption, by rw [q0]; exact q⟩
        · cases q0
      · cases q0
    · exact q.elim
  obtain ⟨ds, e1, e2, h'⟩ := key
  obtain ⟨a, xs, rfl, hs, rr⟩ := tup_of r e1
  exact ⟨a, xs, rfl, hs, by rw [← rr.length]; exact e2, h W τ σ ds xs Q k rs rr h'⟩

/-! ### comprehensions -/
abbrev DC.blk (Γ : DC G X) (s : Shared) (H : Hp) (scope : Scope) (cenv : Env) (fp : List Addr) : DC G (X.blk s H scope cenv fp) := ⟨fun _ _ _ _ => False, Γ.ea, Γ.hK, takes0⟩
abbrev DTs (Γ : DC G X) (ifs : List Expr) (m : TM) : Prop := PTs X ifs (tT Γ m)
@[simp] def mYes : TM := fun _ M => .ok true M
theorem pts_imp {X : Cx} {e : List Expr} {t t' : TT} (h : PTs X e t) (i : ∀ σ H Q, t' σ H Q → t σ H Q) : PTs X e t' := ⟨fun pins s σ H Q I q => h.run pins s σ H Q I (i _ _ _ q)⟩
theorem dts_nil : DTs Γ [] mYes := pts_imp pts_nil fun σ H Q q => by
  obtain ⟨τ, W, rfl, he, ok, rs, h⟩ := q
  exact h true W rfl ok (Ext.refl W) rfl
theorem dts_one {c : Expr} {m : TM} (h : DT Γ c m) : DTs Γ [c] m := pts_one h
open Classical in
noncomputable def lcL (src : List (Nat × List D)) (g : GM) (t : TM) (e : EM) : List D → DSt → Mem → R (List D)
  | [], _, M => if Chk src M then .ok [] M else .bad
  | d :: ds, τ, M => if Chk src M then match g d τ M with
      | .ok τ1 M1 => match t τ1 M1 with
        | .ok true M2 => match e τ1 M2 with
          | .ok y M3 => (lcL src g t e ds τ M3).bind fun ys M4 => .ok (y :: ys) M4
          | _ => .bad
        | .ok false M2 => lcL src g t e ds τ M2
        | _ => .bad
      | _ => .bad
    else .bad
@[simp] noncomputable def eLc (own : Bool) (i : IM) (g : GM) (t : TM) (e : EM) (vs : List Nat) : EM := fun τ M => (i τ M).bind fun it M1 => if it.xs.length ≤ sizeLine then (lcL it.src g t e it.xs (wipeD τ vs) M1).bind fun ys M2 => DM.fin own (some (.l ys)) M2 else .bad
theorem lcL_nox {src : List (Nat × List D)} {g : GM} {t : TM} {e : EM} : ∀ (ds : List D) (τ : DSt) (M : Mem) (x : D) (M' : Mem), lcL src g t e ds τ M ≠ .exc x M'
  | [], τ, M, x, M' => by
    unfold lcL
    split <;> exact fun h => nomatch h
  | d :: ds, τ, M, x, M' => by
    unfold lcL
    split
    · split
      · split
        · split
          · rename_i y M3 _
            cases el : lcL src g t e ds τ M3 with
            | ok ys M4 => exact fun h => nomatch h
            | exc x' M4 => exact absurd el (lcL_nox ds τ _ _ _)
            | bad => exact fun h => nomatch h
          · exact fun h => nomatch h
        · exact lcL_nox ds τ _ _ _
        · exact fun h => nomatch h
      · exact fun h => nomatch h
    · exact fun h => nomatch h
theorem lc_of {own : Bool} {i : IM} {g : TG} {m : GM} {t : TM} {e : EM} {vs : List Nat} (hg : GWp G vs g m) (hM : ∀ d τ M τ' M', m d τ M = .ok τ' M' → M' = M) {σ : L2.St} {H : Hp} {Q : VK} (q : tE Γ (eLc own i m t e vs) σ H Q) :
    tLc (tI Γ i) g (tR G (fun _ _ _ _ => False) Γ.ea rT t) (tR G (fun _ _ _ _ => False) Γ.ea (Rep G) e) vs σ H Q := by
  obtain ⟨τ, W, rfl, he, ok, rs, h⟩ := q
  refine step he ok rs h fun it J W1 k1 e1 r1 h1 => ?_
  split at h1
  · rename_i hz
    intro D hD
    let F : List DM.D → R (List DM.D) → Prop := fun acc r => match r with
      | .ok ys M => pR G Γ.W (Rep G) W1 σ (DM.fin own (some (.l (acc ++ ys))) M) Q
      | _ => False
    have start : F [] (lcL it.src m t e (it.xs.drop 0) (wipeD τ vs) W1.M) := by
      show F [] (lcL it.src m t e it.xs (wipeD τ vs) W1.M)
      cases el : lcL it.src m t e it.xs (wipeD τ vs) W1.M with
      | ok ys M => rw [el] at h1; exact h1
      | exc x M => exact absurd el (lcL_nox _ _ _ _ _)
      | bad => rw [el] at h1; exact h1
    refine ⟨fun j n H => j + n = it.xs.length ∧ ∃ (W2 : Wd) (acc : List DM.D) (av : List V), W2.H = H ∧ WOk G W2 ∧ Ext0 W1 W2 ∧ W2.hid = D :: W1.hid ∧ (∀ a, a ∈ W1.hid → W2.H a = W1.H a) ∧ W2.H D = some (.lst av) ∧ RepL G W2 acc av ∧ acc.length ≤ j ∧ F acc (lcL it.src m t e (it.xs.drop j) (wipeD τ vs) W2.M),
      ⟨it.xs.length, by omega, W1.push D, [], [], rfl, ok_push k1 hD, ext_push k1 hD, rfl, fun a ha => ?_, upd_same, rfl, Nat.le_refl _, start⟩, ?_⟩
    · obtain ⟨xs, q⟩ := k1.hidT a ha
      exact upd_ne (ne_of_none q hD)
    rintro j n H2 ⟨en, W2, acc, av, rfl, k2, e2, eh, hh, hz2, ra, hl, f2⟩
    by_cases hj : j < it.xs.length
    · rw [List.drop_eq_getElem_cons hj] at f2
      unfold lcL at f2
      split at f2
      · rename_i hc2
        obtain ⟨f3, _⟩ := r1 W2 k2 e2 hc2
        obtain ⟨g1, g2⟩ := f3 j it.xs[j] (List.getElem?_eq_getElem hj)
        refine .inr ⟨g1, fun H' => ∃ (W3 : Wd) (acc : List DM.D) (av : List V), W3.H = H' ∧ WOk G W3 ∧ Ext0 W1 W3 ∧ W3.hid = D :: W1.hid ∧ (∀ a, a ∈ W1.hid → W3.H a = W1.H a) ∧ W3.H D = some (.lst av) ∧ RepL G W3 acc av ∧ acc.length ≤ j + 1 ∧ F acc (lcL it.src m t e (it.xs.drop (j + 1)) (wipeD τ vs) W3.M),
          fun H' hN => ⟨n - 1, by omega, by omega, hN⟩, fun x H' hy => ?_⟩
        obtain ⟨W3, rfl, m3, k3, e3, r3⟩ := g2 x H' hy
        have s3 : RelS G W3 (wipeD τ vs) (L2.wipe σ vs) := RelS.wipe ((rs.mono e1).mono0 (e2.trans e3.toExt0)) vs
        refine hg W3 _ _ it.xs[j] x _ k3 s3 r3 ?_
        rw [m3]
        -- what holds of the list that is being made, from W2 on
        have keep : ∀ W4, Ext W2 W4 → Ext0 W1 W4 ∧ W4.hid = D :: W1.hid ∧ (∀ a, a ∈ W1.hid → W4.H a = W1.H a) ∧ W4.H D = some (.lst av) ∧ RepL G W4 acc av := fun W4 e4 =>
          ⟨e2.trans e4.toExt0, e4.hid.trans eh, fun a ha => (e4.hidH a (by rw [eh]; exact List.mem_cons_of_mem _ ha)).trans (hh a ha), (e4.hidH D (by rw [eh]; exact List.mem_cons_self)).trans hz2, RepL.mono e4 ra⟩
        cases eg : m it.xs[j] (wipeD τ vs) W2.M with
        | ok τ3 M3 =>
          rw [eg] at f2
          have em := hM _ _ _ _ _ eg
          subst em
          have ea3 : W3.ea = Γ.ea := e3.ea.trans (e2.ea.trans (e1.ea.trans he))
          have hwip : L2.wipe (L2.wipe σ vs) vs = L2.wipe σ vs := by
            apply List.ext_getElem?
            intro jj
            rw [wipe_get, wipe_get, wipe_length]
            split <;> rfl
          refine ⟨rfl, fun σ4 s4 w4 => ⟨w4.trans hwip, τ3, W3, rfl, ea3, k3, s4, ?_⟩⟩
          rw [m3]
          have f2 : F acc (match t τ3 W2.M with
            | .ok true M2 => match e τ3 M2 with
              | .ok y M3 => (lcL it.src m t e (it.xs.drop (j + 1)) (wipeD τ vs) M3).bind fun ys M4 => .ok (y :: ys) M4
              | _ => .bad
            | .ok false M2 => lcL it.src m t e (it.xs.drop (j + 1)) (wipeD τ vs) M2
            | _ => .bad) := f2
          cases et : t τ3 W2.M with
          | ok b M4 =>
            rw [et] at f2
            intro b' W4 m4 k4 e4 hb
            cases hb
            have e24 := e3.trans e4
            cases b with
            | true =>
              show tR G (fun _ _ _ _ => False) Γ.ea (Rep G) e σ4 W4.H _
              refine ⟨τ3, W4, rfl, e4.ea.trans ea3, k4, s4.mono e4, ?_⟩
              rw [m4]
              have f2 : F acc (match e τ3 M4 with
                | .ok y M3 => (lcL it.src m t e (it.xs.drop (j + 1)) (wipeD τ vs) M3).bind fun ys M4 => .ok (y :: ys) M4
                | _ => .bad) := f2
              cases ee : e τ3 M4 with
              | ok y M5 =>
                rw [ee] at f2
                intro yv W5 m5 k5 e5 r5
                obtain ⟨x1, x2, x3, x4, x5⟩ := keep W5 (e24.trans e5)
                have hin : D ∈ W5.hid := by
                  rw [x2]
                  exact List.mem_cons_self
                have hav : av.length ≤ j := by
                  rw [← ra.length]
                  exact hl
                refine ⟨av, x4, by omega, W5.grow D (av ++ [yv]), acc ++ [y], av ++ [yv], rfl, ok_grow k5 hin, x1.trans (ext_grow hin), x2, fun a ha => ?_, upd_same, RepL.mono0 (ext_grow hin) (x5.append ⟨yv, [], rfl, r5, rfl⟩), by simp; omega, ?_⟩
                · have hN := k5.hidN
                  rw [x2] at hN
                  exact (upd_ne (show a ≠ D from fun z => (List.nodup_cons.mp hN).1 (z ▸ ha))).trans (x3 a ha)
                · show F _ (lcL it.src m t e (it.xs.drop (j + 1)) (wipeD τ vs) W5.M)
                  rw [m5]
                  have f2 : F acc ((lcL it.src m t e (it.xs.drop (j + 1)) (wipeD τ vs) M5).bind fun ys M4 => .ok (y :: ys) M4) := f2
                  cases el : lcL it.src m t e (it.xs.drop (j + 1)) (wipeD τ vs) M5 with
                  | ok ys M6 =>
                    rw [el] at f2
                    show pR G Γ.W (Rep G) W1 σ (DM.fin own (some (.l (acc ++ [y] ++ ys))) M6) Q
                    rw [List.append_assoc]
                    exact f2
                  | exc x M => rw [el] at f2; exact f2
                  | bad => rw [el] at f2; exact f2
              | exc x M => rw [ee] at f2; exact f2.elim
              | bad => rw [ee] at f2; exact f2.elim
            | false =>
              show ∃ (W3 : Wd) (acc : List DM.D) (av : List V), _
              obtain ⟨x1, x2, x3, x4, x5⟩ := keep W4 e24
              exact ⟨W4, acc, av, rfl, k4, x1, x2, x3, x4, x5, by omega, by rw [m4]; exact f2⟩
          | exc x M => rw [et] at f2; exact f2.elim
          | bad => rw [et] at f2; exact f2.elim
        | exc x M => rw [eg] at f2; exact f2.elim
        | bad => rw [eg] at f2; exact f2.elim
      · exact f2.elim
    · rw [List.drop_of_length_le (by omega)] at f2
      unfold lcL at f2
      split at f2
      · rename_i hc2
        obtain ⟨_, f4⟩ := r1 W2 k2 e2 hc2
        refine .inl ⟨f4 j (by omega), ?_⟩
        have f2 : pR G Γ.W (Rep G) W1 σ (DM.fin own (some (.l (acc ++ []))) W2.M) Q := f2
        rw [List.append_nil] at f2
        exact made_out hD k1 k2 e2 eh hh hz2 ra f2
      · exact f2.elim
  · exact h1.elim
theorem de_lc (own : Bool) {elt tg iter : Expr} {ifs : List Expr} {scope : Scope} {ow : List (Str × Nat)} {i : IM} {g : TG} {m : GM} {t : TM} {e : EM} (hN : X.N.Nodup) (hi : DI Γ tg iter i) (ok : BlkOk X.N X.env.scope scope ow) (hw : GWp G (ow.map (·.2)) g m) (hM : ∀ d τ M τ' M', m d τ M = .ok τ' M' → M' = M)
    (hg : ∀ (s : Shared) (H : Hp) (C : Addr) (cl : List (Str × Addr)) (fp : List Addr), PG (X.blk s H scope (compEnvC scope cl C X.env) fp) tg g)
    (ht : ∀ (s : Shared) (H : Hp) (C : Addr) (cl : List (Str × Addr)) (fp : List Addr), DTs (Γ.blk s H scope (compEnvC scope cl C X.env) fp) ifs t)
    (he : ∀ (s : Shared) (H : Hp) (C : Addr) (cl : List (Str × Addr)) (fp : List Addr), DE (Γ.blk s H scope (compEnvC scope cl C X.env) fp) elt e)
    (hc : X.calm = true := by rfl) (hs : ∀ x, foldedSetIterable iter X.env x = pure x := by intro _; rfl) : DE Γ (.ListComp elt [⟨tg, iter, ifs, 0⟩] scope pos) (eLc own i m t e (ow.map (·.2))) :=
  pe_imp (pe_lc hc hN hi ok hg ht he hs) fun σ H Q q => lc_of hw hM q
theorem ds_setLc (own : Bool) {j : Nat} {y : Str} {py : Pos} {elt tg iter : Expr} {ifs : List Expr} {scope : Scope} {ow : List (Str × Nat)} {spos : Pos} {i : IM} {g : TG} {m : GM} {t : TM} {e : EM} (hN : X.N.Nodup)
    (hi : DI Γ tg iter i) (ok : BlkOk X.N X.env.scope scope ow) (hw : GWp G (ow.map (·.2)) g m) (hM : ∀ d τ M τ' M', m d τ M = .ok τ' M' → M' = M)
    (hg : ∀ (s : Shared) (H : Hp) (C : Addr) (cl : List (Str × Addr)) (fp : List Addr), PG (X.blk s H scope (compEnvC scope cl C X.env) fp) tg g)
    (ht : ∀ (s : Shared) (H : Hp) (C : Addr) (cl : List (Str × Addr)) (fp : List Addr), DTs (Γ.blk s H scope (compEnvC scope cl C X.env) fp) ifs t)
    (he : ∀ (s : Shared) (H : Hp) (C : Addr) (cl : List (Str × Addr)) (fp : List Addr), DE (Γ.blk s H scope (compEnvC scope cl C X.env) fp) elt e)
    (hy : X.N[j]? = some y := by rfl) (hyl : X.env.scope.names.lookup y = some .local := by rfl)
    (hsw : swapsWith (.ListComp elt [⟨tg, iter, ifs, 0⟩] scope pos) (some (.Name y py)) spos.line X.env = pure true := by exact sw_true rfl rfl rfl (by decide +kernel))
    (hc : X.calm = true := by rfl) (hs : ∀ x, foldedSetIterable iter X.env x = pure x := by intro _; rfl) : DS Γ (.Assign [.Name y py] (.ListComp elt [⟨tg, iter, ifs, 0⟩] scope pos) spos) (sSet j (eLc own i m t e (ow.map (·.2)))) :=
  ps_imp (ps_setLc (tt := tR G (fun _ _ _ _ => False) Γ.ea rT t) (te := tR G (fun _ _ _ _ => False) Γ.ea (Rep G) e) hc hN hy hyl hsw hi ok hg ht he hs) fun Dn σ H q => by
  obtain ⟨τ, W, rfl, hea, ok, rs, h⟩ := q
  refine lc_of (own := own) (Γ := Γ) hw hM ?_
  exact stepS hea ok rs h fun d v W1 k1 e1 r1 h1 => h1 _ W1 rfl k1 (Ext.refl W1) ((rs.mono e1).set j r1)

/-! ### while: as long as it takes, if it ends -/
def whileN (c : TM) (b : SM) : Nat → SM
  | 0, _, _ => .bad
  | n + 1, τ, M => andS (c τ M) τ fun k M1 => if k = true then match b τ M1 with
      | .nx τ' M' => whileN c b n τ' M'
      | .ct τ' M' => whileN c b n τ' M'
      | .bk τ' M' => .nx τ' M'
      | r => r
    else .nx τ M1
open Classical in
noncomputable def sWhile (c : TM) (b : SM) : SM := fun τ M => if h : ∃ n, whileN c b n τ M ≠ .bad then whileN c b h.choose τ M else .bad
theorem whileN_mono {c : TM} {b : SM} : ∀ (n : Nat) (τ : DSt) (M : Mem) (k : Nat), whileN c b n τ M ≠ .bad → n ≤ k → whileN c b k τ M = whileN c b n τ M
  | 0, _, _, _, h, _ => absurd rfl h
  | n + 1, τ, M, 0, h, hk => by omega
  | n + 1, τ, M, k + 1, h, hk => by
    unfold whileN at h ⊢
    cases e : c τ M with
    | ok x M1 =>
      rw [e] at h
      cases x with
      | false => rfl
      | true =>
        have h : (match b τ M1 with
          | .nx τ' M' => whileN c b n τ' M'
          | .ct τ' M' => whileN c b n τ' M'
          | .bk τ' M' => .nx τ' M'
          | r => r) ≠ .bad := h
        show (match b τ M1 with
          | .nx τ' M' => whileN c b k τ' M'
          | .ct τ' M' => whileN c b k τ' M'
          | .bk τ' M' => .nx τ' M'
          | r => r) = (match b τ M1 with
          | .nx τ' M' => whileN c b n τ' M'
          | .ct τ' M' => whileN c b n τ' M'
          | .bk τ' M' => .nx τ' M'
          | r => r)
        cases eb : b τ M1 with
        | nx τ' M' => rw [eb] at h; exact whileN_mono n τ' M' k h (by omega)
        | ct τ' M' => rw [eb] at h; exact whileN_mono n τ' M' k h (by omega)
        | _ => rfl
    | exc x M1 => rfl
    | bad => rfl
theorem sWhile_eq {c : TM} {b : SM} {τ : DSt} {M : Mem} {n : Nat} (h : whileN c b n τ M ≠ .bad) : sWhile c b τ M = whileN c b n τ M := by
  unfold sWhile
  have hx : ∃ n, whileN c b n τ M ≠ .bad := ⟨n, h⟩
  rw [dif_pos hx]
  rcases Nat.le_total n hx.choose with q | q
  · exact whileN_mono n τ M _ h q
  · exact (whileN_mono _ τ M _ hx.choose_spec q).symm
theorem ds_while {c : Expr} {body : List Stmt} {mc : TM} {b : SM} (h1 : DT Γ c mc) (hb : DSs Γ body b) (hp : PassesOwn (model X.prog X.w) X.A X.env X.xe := by first | exact PassesOwn.never | exact passes_of rfl | assumption) :
    DS Γ (.While c body [] pos) (sWhile mc b) := ps_imp (ps_while hp h1 hb) fun Dn σ H q => by
  obtain ⟨τ, W, rfl, he, ok, rs, h⟩ := q
  refine ⟨fun n σ H => ∃ τ W, W.H = H ∧ W.ea = Γ.ea ∧ WOk G W ∧ RelS G W τ σ ∧ pS G Γ.W W (whileN mc b n τ W.M) Dn, ?_, ?_⟩
  · unfold sWhile at h
    split at h
    · rename_i hx
      exact ⟨_, τ, W, rfl, he, ok, rs, h⟩
    · exact h.elim
  rintro n σ H ⟨τ, W, rfl, he, ok, rs, h⟩
  cases n with
  | zero => exact h.elim
  | succ n =>
    refine stepS he ok rs h fun d v W1 k1 e1 r1 h1 => ?_
    cases r1
    cases d with
    | false => exact h1 σ W1 rfl k1 (Ext.refl W1) (rs.mono e1)
    | true =>
      rw [if_pos rfl]
      refine ⟨fun σ' H' => ∃ τ W, W.H = H' ∧ W.ea = Γ.ea ∧ WOk G W ∧ RelS G W τ σ' ∧ pS G Γ.W W (whileN mc b n τ W.M) Dn, fun σ' H' hN => ⟨n, Nat.lt_succ_self n, hN⟩, ?_⟩
      refine ⟨τ, W1, rfl, e1.ea.trans he, k1, rs.mono e1, ?_⟩
      have h1 : pS G Γ.W W1 (match b τ W1.M with
        | .nx τ' M' => whileN mc b n τ' M'
        | .ct τ' M' => whileN mc b n τ' M'
        | .bk τ' M' => .nx τ' M'
        | r => r) Dn := h1
      cases eb : b τ W1.M with
      | nx τ' M' =>
        rw [eb] at h1
        exact fun σ' W' m' k' e' s' => ⟨τ', W', rfl, e'.ea.trans (e1.ea.trans he), k', s', by rw [m']; exact h1.ext e'⟩
      | ct τ' M' =>
        rw [eb] at h1
        exact fun σ' W' m' k' e' s' => ⟨τ', W', rfl, e'.ea.trans (e1.ea.trans he), k', s', by rw [m']; exact h1.ext e'⟩
      | bk τ' M' => rw [eb] at h1; exact h1
      | rt d M' => rw [eb] at h1; exact h1
      | exc x τ' M' => rw [eb] at h1; exact h1
      | bad => rw [eb] at h1; exact h1
end
end DM

/-! DM: defs, calls, raise, try. -/
namespace DM
open PySem PySem.Spec PyProof.Rows L2

/-! ### places of a def's own -/
mutual
def Clo (n : Nat) : D → Prop
  | .tup ds => CloL n ds
  | .lst ds => CloL n ds
  | .kt ds => CloL n ds
  | .loc l => l < n
  | .exn _ _ _ _ => False
  | _ => True
def CloL (n : Nat) : List D → Prop
  | [] => True
  | d :: ds => Clo n d ∧ CloL n ds
end
abbrev Pur (d : D) : Prop := Clo 0 d
theorem CloL_iff {n : Nat} : ∀ {ds : List D}, CloL n ds ↔ ∀ d ∈ ds, Clo n d
  | [] => by simp [CloL]
  | d :: ds => by simp [CloL, CloL_iff (ds := ds)]
mutual
theorem Clo.mono {n m : Nat} (h : n ≤ m) : ∀ {d : D}, Clo n d → Clo m d
  | .non, _ => trivial
  | .bl _, _ => trivial
  | .int _, _ => trivial
  | .str _, _ => trivial
  | .ty _, _ => trivial
  | .gr _, _ => trivial
  | .scr _, _ => trivial
  | .dic, _ => trivial
  | .tup _, q => CloL.mono h (show CloL n _ from q)
  | .lst _, q => CloL.mono h (show CloL n _ from q)
  | .kt _, q => CloL.mono h (show CloL n _ from q)
  | .loc l, q => Nat.lt_of_lt_of_le (show l < n from q) h
  | .exn _ _ _ _, q => False.elim q
theorem CloL.mono {n m : Nat} (h : n ≤ m) : ∀ {ds : List D}, CloL n ds → CloL m ds
  | [], _ => trivial
  | _ :: _, q => ⟨Clo.mono h q.1, CloL.mono h q.2⟩
end
section
variable {G : Gd} {W W' : Wd}
/-- fewer owners, fewer places -/
structure Cut (n : Nat) (W W' : Wd) : Prop where
  H : W'.H = W.H
  own : ∀ a, W'.own a → W.own a
  pla : ∀ l, l < n → W'.pla[l]? = W.pla[l]?
theorem ScrAt.cut {n : Nat} (c : Cut n W W') {a : Addr} {xs : List V} (h : ScrAt G W a xs) : ScrAt G W' a xs := by
  rcases h with ⟨h, k⟩ | h
  · exact .inl ⟨by rw [c.H]; exact h, fun z => k (c.own a z)⟩
  · exact .inr h
mutual
theorem Rep.cut {n : Nat} (c : Cut n W W') : ∀ {d : D} {v : V}, Rep G W d v → Clo n d → Rep G W' d v
  | .non, _, h, _ => h
  | .bl _, _, h, _ => h
  | .int _, _, h, _ => h
  | .str _, _, h, _ => h
  | .ty _, _, h, _ => h
  | .gr _, _, h, _ => h
  | .tup ds, _, h, q => by
    obtain ⟨a, xs, e, h1, n1, r⟩ := h
    exact ⟨a, xs, e, by rw [c.H]; exact h1, fun z => n1 (c.own a z), RepL.cut c r q⟩
  | .lst ds, _, h, q => by
    obtain ⟨a, xs, e, h1, n1, r⟩ := h
    exact ⟨a, xs, e, by rw [c.H]; exact h1, fun z => n1 (c.own a z), RepL.cut c r q⟩
  | .kt ds, _, h, q => by
    obtain ⟨a, xs, e, h1, r⟩ := h
    exact ⟨a, xs, e, h1, RepL.cut c r q⟩
  | .loc l, _, h, q => by
    obtain ⟨a, h1, e⟩ := h
    exact ⟨a, by rw [c.pla l q]; exact h1, e⟩
  | .scr ns, _, h, _ => by
    obtain ⟨a, e, h1⟩ := h
    exact ⟨a, e, h1.cut c⟩
  | .dic, _, h, _ => by
    obtain ⟨a, e, h1, n1⟩ := h
    exact ⟨a, e, by rw [c.H]; exact h1, fun z => n1 (c.own a z)⟩
  | .exn _ _ _ _, _, _, q => False.elim q
theorem RepL.cut {n : Nat} (c : Cut n W W') : ∀ {ds : List D} {vs : List V}, RepL G W ds vs → CloL n ds → RepL G W' ds vs
  | [], _, h, _ => h
  | _ :: _, _, h, q => by
    obtain ⟨v, r, e, h1, h2⟩ := h
    exact ⟨v, r, e, Rep.cut c h1 q.1, RepL.cut c h2 q.2⟩
end
mutual
theorem Rep.clo (he : W.ea = none) : ∀ {d : D} {v : V}, Rep G W d v → Clo W.pla.length d
  | .non, _, h => trivial
  | .bl _, _, h => trivial
  | .int _, _, h => trivial
  | .str _, _, h => trivial
  | .ty _, _, h => trivial
  | .gr _, _, h => trivial
  | .scr _, _, h => trivial
  | .dic, _, h => trivial
  | .tup ds, _, h => by
    obtain ⟨a, xs, e, h1, n1, r⟩ := h
    exact RepL.clo he r
  | .lst ds, _, h => by
    obtain ⟨a, xs, e, h1, n1, r⟩ := h
    exact RepL.clo he r
  | .kt ds, _, h => by
    obtain ⟨a, xs, e, h1, r⟩ := h
    exact RepL.clo he r
  | .loc l, _, h => by
    obtain ⟨a, h1, e⟩ := h
    exact (List.getElem?_eq_some_iff.mp h1).1
  | .exn _ _ _ _, _, h => by
    obtain ⟨a, dd, h1, e⟩ := h
    rw [he] at h1
    cases h1
theorem RepL.clo (he : W.ea = none) : ∀ {ds : List D} {vs : List V}, RepL G W ds vs → CloL W.pla.length ds
  | [], _, h => trivial
  | _ :: _, _, h => by
    obtain ⟨v, r, e, h1, h2⟩ := h
    exact ⟨Rep.clo he h1, RepL.clo he h2⟩
end
end
/-- places become trees -/
def fzD (M : Mem) (n : Nat) : Nat → D → Option D
  | 0, _ => none
  | k + 1, .tup ds => (ds.mapM (fzD M n k)).map .tup
  | k + 1, .lst ds => (ds.mapM (fzD M n k)).map .lst
  | k + 1, .loc l => if l < n then some (.loc l) else (memAt M l).bind fun ds => (ds.mapM (fzD M n k)).map .lst
  | _ + 1, .kt _ => none
  | _ + 1, .exn _ _ _ _ => none
  | _ + 1, d => some d
open Classical in
noncomputable def fz (M : Mem) (n : Nat) (d : D) : Option D := if Clo n d then some d else fzD M n 6 d
/-- the def's own places are given up -/
def Kept (M M' : Mem) : Prop := M.length ≤ M'.length ∧ ∀ l, l < M.length → M'[l]? = M[l]? ∨ ∃ ds, M'[l]? = some (some ds) ∧ CloL M.length ds
open Classical in
noncomputable def trunc (M M' : Mem) (d : D) : R D := if Kept M M' then match fz M' M.length d with
    | some d' => .ok d' (M'.take M.length)
    | none => .bad
  else .bad
open Classical in
noncomputable def truncX (M M' : Mem) (x : D) : R D := match x with
  | .exn c has f d => if Kept M M' ∧ Pur d then .exc (.exn c has f d) (M'.take M.length) else .bad
  | _ => .bad
section
variable {G : Gd} {W W' : Wd}
abbrev Wd.cutTo (W : Wd) (n : Nat) : Wd := { W with pla := W.pla.take n, M := W.M.take n }
theorem cut_cutTo (n : Nat) : Cut n W (W.cutTo n) := by
  refine ⟨rfl, fun a h => ?_, fun l h => ?_⟩
  · rcases h with h | ⟨l, ds, h1, h2⟩
    · exact .inl h
    have h1 : (W.M.take n)[l]? = some (some ds) := h1
    have h2 : (W.pla.take n)[l]? = some a := h2
    rw [List.getElem?_take] at h1 h2
    by_cases hl : l < n
    · rw [if_pos hl] at h1 h2
      exact .inr ⟨l, ds, h1, h2⟩
    · rw [if_neg hl] at h1
      cases h1
  · show (W.pla.take n)[l]? = _
    rw [List.getElem?_take, if_pos h]
theorem ok_cutTo (k : WOk G W) (k' : WOk G W') (he : W.ea = none) (e : Ext W W') (hk : Kept W.M W'.M) : WOk G (W'.cutTo W.M.length) ∧ Ext W (W'.cutTo W.M.length) := by
  have c := cut_cutTo (W := W') W.M.length
  have at_ : ∀ {l : Nat} {ds : List D}, (W'.M.take W.M.length)[l]? = some (some ds) → l < W.M.length ∧ W'.M[l]? = some (some ds) := fun {l ds} h => by
    rw [List.getElem?_take] at h
    by_cases hl : l < W.M.length
    · rw [if_pos hl] at h
      exact ⟨hl, h⟩
    · rw [if_neg hl] at h
      cases h
  have pi_ : ∀ {l : Nat} {a : Addr}, (W'.pla.take W.M.length)[l]? = some a → W'.pla[l]? = some a := fun {l a} h => by
    rw [List.getElem?_take] at h
    by_cases hl : l < W.M.length
    · rw [if_pos hl] at h
      exact h
    · rw [if_neg hl] at h
      cases h
  refine ⟨⟨?_, fun l l' a ds ds' m m' h h' => ?_, fun l ds h => ?_, k'.hidT, fun a ha l ds m h => ?_, k'.hidN⟩, ⟨⟨fun l a h => ?_, fun a o h n => ?_, e.ea⟩, e.hid, e.hidH⟩⟩
  · show (W'.pla.take _).length = (W'.M.take _).length
    rw [List.length_take, List.length_take, k'.len]
  · exact k'.inj l l' a ds ds' (at_ m).2 (at_ m').2 (pi_ h) (pi_ h')
  · obtain ⟨hl, h⟩ := at_ h
    obtain ⟨a, xs, h1, h2, h3⟩ := k'.there l ds h
    refine ⟨a, xs, by rw [c.pla l hl]; exact h1, h2, ?_⟩
    rcases hk.2 l hl with q | ⟨es, q, qc⟩
    · rw [q] at h
      obtain ⟨_, ys, _, _, r⟩ := k.there l ds h
      exact RepL.cut c h3 (by rw [← k.len]; exact RepL.clo he r)
    · rw [h] at q
      cases q
      exact RepL.cut c h3 qc
  · exact k'.hidP a ha l ds (at_ m).2 (pi_ h)
  · have hl : l < W.M.length := by
      rw [← k.len]
      exact (List.getElem?_eq_some_iff.mp h).1
    rw [c.pla l hl]
    exact e.pla l a h
  · obtain ⟨h1, n1⟩ := e.H a o h n
    exact ⟨h1, fun q => n1 (c.own a q)⟩
theorem mapM_rep {f : D → Option D} (h : ∀ d v d', Rep G W d v → f d = some d' → Rep G W' d' v) : ∀ {ds ds' : List D} {vs : List V}, RepL G W ds vs → ds.mapM f = some ds' → RepL G W' ds' vs
  | [], ds', vs, r, e => by
    simp at e
    subst e
    exact r
  | d :: ds, ds', vs, r, e => by
    obtain ⟨v, us, rfl, r1, r2⟩ := r
    rw [List.mapM_cons] at e
    cases e1 : f d with
    | none => rw [e1] at e; cases e
    | some d1 =>
      rw [e1] at e
      cases e2 : ds.mapM f with
      | none => rw [e2] at e; cases e
      | some es =>
        rw [e2] at e
        cases e
        exact ⟨v, us, rfl, h d v d1 r1 e1, mapM_rep h r2 e2⟩
theorem fzD_rep (k' : WOk G W') {n : Nat} : ∀ (k : Nat) (d : D) (v : V) (d' : D), Rep G W' d v → fzD W'.M n k d = some d' → Rep G (W'.cutTo n) d' v
  | 0, _, _, _, _, e => by cases e
  | k + 1, .tup ds, v, d', r, e => by
    have e : (ds.mapM (fzD W'.M n k)).map D.tup = some d' := e
    obtain ⟨es, e1, rfl⟩ := Option.map_eq_some_iff.mp e
    obtain ⟨a, xs, rfl, h1, n1, r⟩ := r
    exact ⟨a, xs, rfl, h1, fun z => n1 ((cut_cutTo n).own a z), mapM_rep (fun d v d' => fzD_rep k' k d v d') r e1⟩
  | k + 1, .lst ds, v, d', r, e => by
    have e : (ds.mapM (fzD W'.M n k)).map D.lst = some d' := e
    obtain ⟨es, e1, rfl⟩ := Option.map_eq_some_iff.mp e
    obtain ⟨a, xs, rfl, h1, n1, r⟩ := r
    exact ⟨a, xs, rfl, h1, fun z => n1 ((cut_cutTo n).own a z), mapM_rep (fun d v d' => fzD_rep k' k d v d') r e1⟩
  | k + 1, .loc l, v, d', r, e => by
    have e : (if l < n then some (D.loc l) else (memAt W'.M l).bind fun ds => (ds.mapM (fzD W'.M n k)).map .lst) = some d' := e
    obtain ⟨a, h1, rfl⟩ := r
    split at e
    · rename_i hl
      cases e
      exact ⟨a, by rw [(cut_cutTo n).pla l hl]; exact h1, rfl⟩
    · rename_i hl
      cases em : memAt W'.M l with
      | none => rw [em] at e; cases e
      | some ds =>
        rw [em] at e
        have e : (ds.mapM (fzD W'.M n k)).map D.lst = some d' := e
        obtain ⟨es, e1, rfl⟩ := Option.map_eq_some_iff.mp e
        have hm := mem_eq em
        obtain ⟨a', xs, h2, h3, r⟩ := k'.there l ds hm
        rw [h1] at h2
        cases h2
        refine ⟨a, xs, rfl, h3, ?_, mapM_rep (fun d v d' => fzD_rep k' k d v d') r e1⟩
        rintro (z | ⟨l', ds', m', p'⟩)
        · exact k'.hidP a z l ds hm h1
        · have m' : (W'.M.take n)[l']? = some (some ds') := m'
          have p' : (W'.pla.take n)[l']? = some a := p'
          rw [List.getElem?_take] at m' p'
          by_cases hl' : l' < n
          · rw [if_pos hl'] at m' p'
            have := k'.inj l l' a ds ds' hm m' h1 p'
            omega
          · rw [if_neg hl'] at m'
            cases m'
  | k + 1, .non, v, d', r, e => by cases e; exact r
  | k + 1, .bl _, v, d', r, e => by cases e; exact r
  | k + 1, .int _, v, d', r, e => by cases e; exact r
  | k + 1, .str _, v, d', r, e => by cases e; exact r
  | k + 1, .ty _, v, d', r, e => by cases e; exact r
  | k + 1, .gr _, v, d', r, e => by cases e; exact r
  | k + 1, .kt _, v, d', r, e => by cases e
  | k + 1, .scr _, v, d', r, e => by
    cases e
    obtain ⟨a, e, h1⟩ := r
    exact ⟨a, e, h1.cut (cut_cutTo n)⟩
  | k + 1, .dic, v, d', r, e => by
    cases e
    obtain ⟨a, e, h1, n1⟩ := r
    exact ⟨a, e, h1, fun z => n1 ((cut_cutTo n).own a z)⟩
  | k + 1, .exn _ _ _ _, v, d', r, e => by cases e
theorem fz_rep (k' : WOk G W') {n : Nat} {d d' : D} {v : V} (r : Rep G W' d v) (e : fz W'.M n d = some d') : Rep G (W'.cutTo n) d' v := by
  unfold fz at e
  split at e
  · rename_i hc
    cases e
    exact Rep.cut (cut_cutTo n) r hc
  · exact fzD_rep k' 6 d v d' r e
end

/-! ### a def's promise -/
def spD (G : Gd) (n : Nat) (sem : FM) : Sp := fun vs H Q E => ∃ ds W, W.H = H ∧ W.ea = none ∧ WOk G W ∧ RepL G W ds vs ∧ ds.length = n ∧ pR G (fun cls dd _ H => E cls dd H) (Rep G) W [] (sem ds W.M) Q
def startD (N : List Str) (ds : List D) : DSt := ds.map some ++ List.replicate (N.length - ds.length) none
/-- a body's end: its places stay | are given up -/
@[simp] def endK (_ : Mem) (r : RS) : R D := match r with
  | .nx _ M' => .ok .non M'
  | .rt d M' => .ok d M'
  | .exc x _ M' => .exc x M'
  | _ => .bad
noncomputable def endT (M : Mem) (r : RS) : R D := match r with
  | .nx _ M' => trunc M M' .non
  | .rt d M' => trunc M M' d
  | .exc x _ M' => truncX M M' x
  | _ => .bad
theorem relS_start {G : Gd} {W : Wd} {N : List Str} {ds : List D} {vs : List V} (r : RepL G W ds vs) : RelS G W (startD N ds) (L2.start N vs) := by
  have hl := r.length
  refine ⟨by simp [startD, L2.start, hl], fun i d h => ?_⟩
  unfold startD at h
  unfold L2.start
  by_cases hi : i < ds.length
  · rw [List.getElem?_append_left (by simpa using hi), List.getElem?_map] at h
    rw [List.getElem?_append_left (by rw [List.length_map, ← hl]; exact hi), List.getElem?_map]
    cases e : ds[i]? with
    | none => rw [e] at h; cases h
    | some d' =>
      rw [e] at h
      cases h
      obtain ⟨v, h1, h2⟩ := r.get e
      exact ⟨v, by rw [h1]; rfl, h2⟩
  · rw [List.getElem?_append_right (by simpa using hi), List.getElem?_replicate] at h
    split at h <;> cases h
section
variable {P : Program} {w : World} {G : Gd} {mg : Str → Option Value} {base : Heap} {x qual : Str} {st : Stmt} {f : Addr} {fd : FuncData} {N ps : List Str} {k : Nat} {m : SM}
/-- the context of a def's body -/
def bodyC (G : Gd) (P : Program) (w : World) (mg : Str → Option Value) (base : Heap) (N : List Str) (qual : Str) (sc : Scope) (f : Addr) (cdv : Value) (A : Around) (outer : List Env) (s : Shared) (H : Hp) (E : XK) :
    DC G (cxOf (L2.CX P w) P w G.K mg base N qual sc f cdv A outer s H E) := ⟨fun cls d _ H => E cls d H, none, rfl, takes_of rfl rfl rfl rfl⟩
theorem fn_K (F : Fun G.K x qual st f fd) (S : FnScope N ps (defScope st))
    (hb : ∀ (cdv : Value) (A : Around) (outer : List Env) (s : Shared) (H : Hp) (E : XK), Room k (A.deeper (envOfC qual (defScope st) s.heap.objs.size f cdv)) → DSs (bodyC G P w mg base N qual (defScope st) f cdv A outer s H E) (defBody st) m) :
    FnOk P w G.K mg base (L2.CX P w) (k + 1) f fd ps (spD G ps.length fun ds M => endK M (m (startD N ds) M)) := by
  refine F.okX S (fun vs H Q E h => ?_) fun cdv A outer s H vs Q E hr h => ?_
  · obtain ⟨ds, W, _, _, _, r, hl, _⟩ := h
    rw [← r.length]
    exact hl
  · obtain ⟨ds, W, rfl, he, ok, r, hl, q⟩ := h
    refine ⟨_, hb cdv A outer s W.H E hr, startD N ds, W, rfl, he, ok, relS_start r, ?_⟩
    cases e : m (startD N ds) W.M with
    | nx τ M' =>
      simp only [e] at q
      exact fun σ W' m' k' e' s' => q .non W' m' k' e' rfl
    | rt d M' =>
      simp only [e] at q
      exact q
    | exc x τ M' =>
      simp only [e] at q
      exact fun c dd σ W' m' k' e' s' r' => q c dd W' m' k' e' r'
    | bk τ M' => simp only [e] at q; exact q.elim
    | ct τ M' => simp only [e] at q; exact q.elim
    | bad => simp only [e] at q; exact q
theorem trunc_ok {W : Wd} {E : XK} {Q : VK} {M' : Mem} {d : D} (ok : WOk G W) (he : W.ea = none) (q : pR G (fun cls dd _ H => E cls dd H) (Rep G) W [] (trunc W.M M' d) Q) :
    ∀ v W', W'.M = M' → WOk G W' → Ext W W' → Rep G W' d v → Q v W'.H := fun v W' m' k' e' r' => by
  subst m'
  unfold trunc at q
  split at q
  · rename_i hk
    cases ef : fz W'.M W.M.length d with
    | none => rw [ef] at q; exact q.elim
    | some d' =>
      rw [ef] at q
      obtain ⟨k2, e2⟩ := ok_cutTo ok k' he e' hk
      exact q v (W'.cutTo W.M.length) rfl k2 e2 (fz_rep k' r' ef)
  · exact q.elim
theorem fn_T (F : Fun G.K x qual st f fd) (S : FnScope N ps (defScope st))
    (hb : ∀ (cdv : Value) (A : Around) (outer : List Env) (s : Shared) (H : Hp) (E : XK), Room k (A.deeper (envOfC qual (defScope st) s.heap.objs.size f cdv)) → DSs (bodyC G P w mg base N qual (defScope st) f cdv A outer s H E) (defBody st) m) :
    FnOk P w G.K mg base (L2.CX P w) (k + 1) f fd ps (spD G ps.length fun ds M => endT M (m (startD N ds) M)) := by
  refine F.okX S (fun vs H Q E h => ?_) fun cdv A outer s H vs Q E hr h => ?_
  · obtain ⟨ds, W, _, _, _, r, hl, _⟩ := h
    rw [← r.length]
    exact hl
  · obtain ⟨ds, W, rfl, he, ok, r, hl, q⟩ := h
    refine ⟨_, hb cdv A outer s W.H E hr, startD N ds, W, rfl, he, ok, relS_start r, ?_⟩
    cases e : m (startD N ds) W.M with
    | nx τ M' =>
      simp only [e] at q
      exact fun σ W' m' k' e' s' => trunc_ok ok he q .non W' m' k' e' rfl
    | rt d M' =>
      simp only [e] at q
      exact trunc_ok ok he q
    | exc x τ M' =>
      simp only [e] at q
      intro c dd σ W' m' k' e' s' r'
      subst m'
      have q : pR G (fun cls dd _ H => E cls dd H) (Rep G) W [] (truncX W.M W'.M x) Q := q
      cases x with
      | exn c' hs f' d' =>
        open Classical in
        have q : pR G (fun cls dd _ H => E cls dd H) (Rep G) W [] (if Kept W.M W'.M ∧ Pur d' then .exc (.exn c' hs f' d') (W'.M.take W.M.length) else .bad) Q := q
        split at q
        · rename_i hk
          obtain ⟨k2, e2⟩ := ok_cutTo ok k' he e' hk.1
          refine q c dd (W'.cutTo W.M.length) rfl k2 e2 ⟨r'.1, ?_⟩
          have r2 := r'.2
          cases hs with
          | false => exact r2
          | true =>
            obtain ⟨a, v, e1, e2, e3, e4⟩ := r2
            exact ⟨a, v, e1, e2, fun z => e3 ((cut_cutTo _).own a z), Rep.cut (cut_cutTo _) e4 (Clo.mono (Nat.zero_le _) hk.2)⟩
        · exact q.elim
      | _ => exact q.elim
    | bk τ M' => simp only [e] at q; exact q.elim
    | ct τ M' => simp only [e] at q; exact q.elim
    | bad => simp only [e] at q; exact q
/-- a promise by a lesser known function -/
theorem fn_eq {n : Nat} {sem sem' : FM} (F : FnOk P w G.K mg base (L2.CX P w) k f fd ps (spD G n sem)) (h : ∀ ds M, ds.length = n → sem' ds M ≠ .bad → sem ds M = sem' ds M) : FnOk P w G.K mg base (L2.CX P w) k f fd ps (spD G n sem') :=
  F.imp fun vs H Q E q => by
    obtain ⟨ds, W, e1, e2, ok, r, hl, q⟩ := q
    refine ⟨ds, W, e1, e2, ok, r, hl, ?_⟩
    rw [h ds W.M hl]
    · exact q
    · intro z
      rw [z] at q
      exact q
end
section
variable {G : Gd} {X : Cx} {Γ : DC G X} {pos p : Pos} {x : Str} {k : Nat} {f : Addr} {fd : FuncData} {ps : List Str} {sem : FM} {a : Expr} {es : List Expr} {mr : AM}
@[simp] def eCall (n : Nat) (sem : FM) (r : AM) : EM := fun τ M => (r τ M).bind fun ds M1 => if ds.length = n then sem ds M1 else .bad
theorem de_call {n : Nat} (F : FnOk X.prog X.w X.K X.mg X.base (L2.CX X.prog X.w) k f fd ps (spD G n sem)) (hr : Room k X.A) (hm : X.mg x = some (.ref f)) (hk : PySem.W.keepIn X.K (.ref f) = true) (hb : Binds X.K fd ps []) (ha : DA Γ (a :: es) mr)
    (he : Γ.ea = none := by rfl) (hg : Gl X x := by rfl) (hdb : (x == ("__debug__" : Str)) = false := by decide) (hst : starEach (a :: es) X.env = (false, eval a X.env) :: starEach es X.env := by rfl) (hpl : (backTo pos (starEach es X.env)).any (·.1) = false := by rfl) :
    DE Γ (.Call (.Name x p) (a :: es) [] pos) (eCall n sem mr) := pe_imp (pe_callS (E := WE Γ.W) F hr hg hm hk hb (fun σ => passAt Γ.tk σ) ha hdb hst hpl) fun σ H Q q => by
  obtain ⟨τ, W, rfl, hea, ok, rs, h⟩ := q
  refine step hea ok rs h fun ds vs W1 k1 e1 r1 h1 => ?_
  split at h1
  · rename_i hl
    refine ⟨ds, W1, rfl, e1.ea.trans (hea.trans he), k1, r1, hl, ?_⟩
    cases e : sem ds W1.M with
    | ok d M => rw [e] at h1; exact h1
    | exc x M => rw [e] at h1; exact h1
    | bad => rw [e] at h1; exact h1
  · exact h1.elim

/-! ### raise -/
@[simp] def sRaise (c : String) : SM := fun τ M => .exc (.exn c false "" .non) τ M
theorem ds_raise {C : Addr} {bmB : List Value} {B newId initId : String} {m : Str} {j : Nat} {p2 cpos : Pos} {c : String} (F : ExcBaseFacts B newId initId bmB) (q : PySem.W.excIn X.K C bmB newId = true) (gC : X.mg x = some (.ref C)) (kC : PySem.W.keepIn X.K (.ref C) = true) (r : Raises X (.ref C)) (hC : G.ca c = C)
    (hc : X.calm = true := by rfl) (hg : Gl X x := by rfl) (hdb : (x == ("__debug__" : Str)) = false := by decide) : DS Γ (.Raise (some (.Call (.Name x p) [.Constant (.str m) j p2] [] cpos)) none pos) (sRaise c) :=
  ps_imp (ps_raise hc Γ.tk (pmk_own F q gC kC r hg hdb)) fun Dn σ H q => by
  obtain ⟨τ, W, rfl, hea, ok, rs, h⟩ := q
  exact h (.ref C) none σ W rfl ok (Ext.refl W) rs ⟨by rw [hC], rfl⟩
end
end DM

/-! DM: operations on data. -/
namespace DM
open PySem PySem.Spec PyProof.Rows L2
section
variable {G : Gd} {X : Cx} {Γ : DC G X} {pos p : Pos}
/-- as a list that stands in the heap as such (no script) -/
def ownL : D → Mem → Option (List D)
  | .lst ds, _ => some ds
  | .loc l, M => memAt M l
  | _, _ => none
theorem ownL_of {W : Wd} {d : D} {v : V} {ds : List D} (k : WOk G W) (r : Rep G W d v) (h : ownL d W.M = some ds) : ∃ a xs, v = .ref a ∧ W.H a = some (.lst xs) ∧ RepL G W ds xs := by
  cases d with
  | lst es =>
    obtain ⟨a, xs, rfl, h1, _, r⟩ := r
    cases h
    exact ⟨a, xs, rfl, h1, r⟩
  | loc l =>
    obtain ⟨a, h1, rfl⟩ := r
    obtain ⟨a', xs, h2, h3, r⟩ := k.there l ds (mem_eq h)
    rw [h1] at h2
    cases h2
    exact ⟨a, xs, rfl, h3, r⟩
  | _ => cases h
def tupT : D → Option (List D)
  | .tup ds => some ds
  | _ => none
theorem tupT_eq {d : D} {ds : List D} (h : tupT d = some ds) : d = .tup ds := by
  cases d <;> cases h <;> rfl

/-! ### ints -/
def int2 (f : Int → Int → Option D) : O2 := fun x y _ => match x with
  | .int i => match y with
    | .int j => (f i j).map .v
    | _ => none
  | _ => none
theorem real_int2 {C : Int → Int → Prop} {g : Int → Int → V} {f : Int → Int → Option D} (h : ∀ i j d, f i j = some d → C i j ∧ ∀ W, Rep G W d (g i j)) : Real2 G (int2 f) (rI C g) := fun W dx dy x y Q k rx ry q => by
  unfold int2 at q
  split at q
  · rename_i i
    split at q
    · rename_i j
      cases rx
      cases ry
      cases e : f i j with
      | none => rw [e] at q; exact q.elim
      | some d =>
        rw [e] at q
        obtain ⟨h1, h2⟩ := h i j d e
        exact ⟨i, j, rfl, rfl, h1, q _ W rfl k (Ext.refl W) (h2 W)⟩
    · exact q.elim
  · exact q.elim
theorem real_int20 {g : Int → Int → V} {f : Int → Int → Option D} (h : ∀ i j d, f i j = some d → ∀ W, Rep G W d (g i j)) : Real2 G (int2 f) (rI0 g) := fun W dx dy x y Q k rx ry q => by
  obtain ⟨i, j, e1, e2, _, z⟩ := real_int2 (C := fun _ _ => True) (fun i j d e => ⟨trivial, h i j d e⟩) W dx dy x y Q k rx ry q
  exact ⟨i, j, e1, e2, z⟩
def CMulG (i j : Int) : Prop := i.natAbs.log2 + j.natAbs.log2 < 130000000 ∨ i.natAbs < 2 ^ 64 ∨ j.natAbs < 2 ^ 64
def CDivG (_ j : Int) : Prop := j ≠ 0 ∧ j.natAbs.log2 < 9000
instance (i j : Int) : Decidable (CMulG i j) := inferInstanceAs (Decidable (_ ∨ _ ∨ _))
instance (i j : Int) : Decidable (CDivG i j) := inferInstanceAs (Decidable (_ ∧ _))
instance (i j : Int) : Decidable (CPow i j) := inferInstanceAs (Decidable (_ ∧ _ ∧ _))
theorem CMulG.ok {i j : Int} (h : CMulG i j) : IntMulOk i j := by
  rcases h with h | h | h
  rotate_left
  · exact CMul.ok (.inl ⟨by omega, by omega⟩)
  · exact CMul.ok (.inr ⟨by omega, by omega⟩)
  have b : ∀ x : Int, Builtin.Int.intBits x ≤ x.natAbs.log2 + 1 := fun x => by
    unfold Builtin.Int.intBits
    split <;> omega
  have h1 := b i
  have h2 := b j
  have h3 : i.natAbs.log2 + j.natAbs.log2 < 130000000 := h
  have e : bitsLine = 134217728 := by decide
  unfold IntMulOk
  intro z
  rw [Bool.and_eq_true] at z
  have z2 := z.2
  unfold Builtin.Int.intTooBig at z2
  have z3 := of_decide_eq_true z2
  rw [e] at z3
  omega
theorem op_mulG : OpR X (binaryOp .Mult) (rI CMulG fun i j => .int (i * j)) := opI fun _ _ _ _ _ _ _ hc q => mul_int q hc.ok
theorem op_fdivG : OpR X (binaryOp .FloorDiv) (rI CDivG fun i j => .int (i.fdiv j)) := opI fun _ _ _ _ _ _ _ hc q => floordiv_int hc.1 q (.inl (PyProof.noPylong_of_log2 hc.2))
def oSub : O2 := int2 fun i j => some (.int (i - j))
def oDiv : O2 := int2 fun i j => if CDivG i j then some (.int (i.fdiv j)) else none
def oMod : O2 := int2 fun i j => if j ≠ 0 then some (.int (i.fmod j)) else none
def oPow : O2 := int2 fun i j => if CPow i j then some (.int (i ^ j.toNat)) else none
def oLt : O2 := int2 fun i j => some (.bl (decide (i < j)))
def oLe : O2 := int2 fun i j => some (.bl (decide (i ≤ j)))
def oGt : O2 := int2 fun i j => some (.bl (decide (j < i)))
def oGe : O2 := int2 fun i j => some (.bl (decide (j ≤ i)))
theorem real_sub : Real2 G oSub (rI0 fun i j => .int (i - j)) := real_int20 fun i j d e => by cases e; exact fun _ => rfl
theorem real_div : Real2 G oDiv (rI CDivG fun i j => .int (i.fdiv j)) := real_int2 fun i j d e => by
  split at e
  · cases e; exact ⟨by assumption, fun _ => rfl⟩
  · cases e
theorem real_mod : Real2 G oMod (rI (fun _ j => j ≠ 0) fun i j => .int (i.fmod j)) := real_int2 fun i j d e => by
  split at e
  · cases e; exact ⟨by assumption, fun _ => rfl⟩
  · cases e
theorem real_pow : Real2 G oPow (rI CPow fun i j => .int (i ^ j.toNat)) := real_int2 fun i j d e => by
  split at e
  · cases e; exact ⟨by assumption, fun _ => rfl⟩
  · cases e
theorem real_lt : Real2 G oLt (rI0 fun i j => .bl (decide (i < j))) := real_int20 fun i j d e => by cases e; exact fun _ => rfl
theorem real_le : Real2 G oLe (rI0 fun i j => .bl (decide (i ≤ j))) := real_int20 fun i j d e => by cases e; exact fun _ => rfl
theorem real_gt : Real2 G oGt (rI0 fun i j => .bl (decide (j < i))) := real_int20 fun i j d e => by cases e; exact fun _ => rfl
theorem real_ge : Real2 G oGe (rI0 fun i j => .bl (decide (j ≤ i))) := real_int20 fun i j d e => by cases e; exact fun _ => rfl
theorem int2_v {f : Int → Int → Option D} : ∀ x y M o, int2 f x y M = some o → ∃ d, o = .v d := fun x y M o h => by
  unfold int2 at h
  split at h
  · split at h
    · obtain ⟨d, _, rfl⟩ := Option.map_eq_some_iff.mp h
      exact ⟨d, rfl⟩
    · cases h
  · cases h
def oNeg : O1 := fun x _ => match x with
  | .int i => some (.v (.int (-i)))
  | _ => none
theorem real_neg : Real1 G oNeg (rU fun i => .int (-i)) := fun W dx x Q k rx q => by
  unfold oNeg at q
  split at q
  · rename_i i
    cases rx
    exact ⟨i, rfl, q _ W rfl k (Ext.refl W) rfl⟩
  · exact q.elim

/-! ### + and * -/
def oAdd : O2 := fun x y M => match x with
  | .int i => match y with
    | .int j => some (.v (.int (i + j)))
    | _ => none
  | .tup ds => match y with
    | .tup es => if ds.length + es.length ≤ sizeLine then some (.v (.tup (ds ++ es))) else none
    | _ => none
  | _ => (ownL x M).bind fun ds => (ownL y M).bind fun es => if ds.length + es.length ≤ sizeLine then some (.l (ds ++ es)) else none
def rAddA (K : PySem.W.Frag) : R2 := fun x y H Q => (rI0 fun i j => .int (i + j)) x y H Q ∨ (rCatA K x y H Q ∨ rCat x y H Q)
theorem op_addA : OpR X (binaryOp .Add) (rAddA X.K) := op_add.or (op_catA.or op_cat)
theorem lst_cat {W : Wd} {dx dy : D} {x y : V} {Q : VK} (k : WOk G W) (rx : Rep G W dx x) (ry : Rep G W dy y)
    (q : pO G W ((ownL dx W.M).bind fun ds => (ownL dy W.M).bind fun es => if ds.length + es.length ≤ sizeLine then some (.l (ds ++ es)) else none) Q) : rCat x y W.H Q := by
  cases e1 : ownL dx W.M with
  | none => rw [e1] at q; exact q.elim
  | some ds =>
    cases e2 : ownL dy W.M with
    | none => rw [e1, e2] at q; exact q.elim
    | some es =>
      rw [e1, e2] at q
      have q : pO G W (if ds.length + es.length ≤ sizeLine then some (.l (ds ++ es)) else none) Q := q
      split at q
      · rename_i hl
        obtain ⟨a, xs, rfl, h1, r1⟩ := ownL_of k rx e1
        obtain ⟨b, ys, rfl, h2, r2⟩ := ownL_of k ry e2
        exact ⟨a, b, xs, ys, rfl, rfl, h1, h2, by rw [← r1.length, ← r2.length]; exact hl, fun p hp => q _ p (r1.append r2) hp⟩
      · exact q.elim
theorem real_add : Real2 G oAdd (rAddA G.K) := fun W dx dy x y Q k rx ry q => by
  cases dx with
  | int i =>
    cases dy with
    | int j =>
      cases rx
      cases ry
      exact .inl ⟨i, j, rfl, rfl, q _ W rfl k (Ext.refl W) rfl⟩
    | _ => exact q.elim
  | tup ds =>
    cases dy with
    | tup es =>
      have q : pO G W (if ds.length + es.length ≤ sizeLine then some (.v (.tup (ds ++ es))) else none) Q := q
      split at q
      · rename_i hl
        obtain ⟨a, xs, rfl, h1, n1, r1⟩ := rx
        obtain ⟨b, ys, rfl, h2, n2, r2⟩ := ry
        have fin : ∀ v W', W'.M = W.M → WOk G W' → Ext W W' → Rep G W' (.tup (ds ++ es)) v → Q v W'.H := q
        refine .inr (.inl ⟨a, b, xs, ys, rfl, rfl, .of h1, .of h2, by rw [← r1.length, ← r2.length]; exact hl, fun e => ?_, fun _ e => ?_, fun _ _ p hp => ?_⟩)
        · subst e
          cases ds with
          | nil => exact fin _ W rfl k (Ext.refl W) ⟨b, ys, rfl, h2, n2, r2⟩
          | cons d ds => obtain ⟨_, _, z, _⟩ := r1; cases z
        · subst e
          cases es with
          | nil => exact fin _ W rfl k (Ext.refl W) ⟨a, xs, rfl, h1, n1, by rw [List.append_nil]; exact r1⟩
          | cons d ds => obtain ⟨_, _, z, _⟩ := r2; cases z
        · exact fin (.ref p) (W.new p (.tup (xs ++ ys))) rfl (ok_new k hp) (ext_new k hp) ⟨p, _, rfl, upd_same, own_new k hp, (r1.append r2).mono (ext_new k hp)⟩
      · exact q.elim
    | _ => exact q.elim
  | lst ds => exact .inr (.inr (lst_cat k rx ry q))
  | loc l => exact .inr (.inr (lst_cat k rx ry q))
  | _ => exact (by
      have q : pO G W none Q := q
      exact q.elim)
def repD (n : Nat) (ds : List D) : List D := (List.replicate n ds).flatten
theorem RepL.rep {W : Wd} {ds : List D} {xs : List V} (r : RepL G W ds xs) : ∀ n, RepL G W (repD n ds) (List.replicate n xs).flatten
  | 0 => rfl
  | n + 1 => by
    unfold repD
    rw [List.replicate_succ, List.replicate_succ, List.flatten_cons, List.flatten_cons]
    exact r.append (RepL.rep r n)
/-- how often a list may be put behind itself -/
def repOk (n : Nat) (j : Int) : Prop := -(2 ^ 63) ≤ j ∧ j < 2 ^ 63 ∧ n * j.toNat ≤ sizeLine
noncomputable instance repOkD (n : Nat) (j : Int) : Decidable (repOk n j) := Classical.propDecidable _
noncomputable def oMul : O2 := fun x y M => match x with
  | .int i => match y with
    | .int j => if CMulG i j then some (.v (.int (i * j))) else none
    | _ => none
  | .tup ds => match y with
    | .int j => if ds ≠ [] ∧ 2 ≤ j ∧ j ≤ 1000 ∧ ds.length ≤ 1000 then some (.v (.tup (repD j.toNat ds))) else none
    | _ => none
  | _ => (ownL x M).bind fun ds => (intOf y).bind fun j => if repOk ds.length j then some (.l (repD j.toNat ds)) else none
def rMulA (K : PySem.W.Frag) : R2 := fun x y H Q => (rI CMulG fun i j => .int (i * j)) x y H Q ∨ (rRepT K x y H Q ∨ rRep x y H Q)
theorem op_mulA : OpR X (binaryOp .Mult) (rMulA X.K) := op_mulG.or (op_repT.or op_rep)
theorem lst_rep {W : Wd} {dx dy : D} {x y : V} {Q : VK} (k : WOk G W) (rx : Rep G W dx x) (ry : Rep G W dy y)
    (q : pO G W ((ownL dx W.M).bind fun ds => (intOf dy).bind fun j => if repOk ds.length j then some (.l (repD j.toNat ds)) else none) Q) : rRep x y W.H Q := by
  cases e1 : ownL dx W.M with
  | none => rw [e1] at q; exact q.elim
  | some ds =>
    cases e2 : intOf dy with
    | none => rw [e1, e2] at q; exact q.elim
    | some j =>
      rw [e1, e2] at q
      have q : pO G W (if repOk ds.length j then some (.l (repD j.toNat ds)) else none) Q := q
      split at q
      · rename_i hl
        obtain ⟨a, xs, rfl, h1, r1⟩ := ownL_of k rx e1
        have := int_eq e2
        subst this
        cases ry
        exact ⟨a, j, xs, rfl, rfl, h1, hl.1, hl.2.1, by rw [← r1.length]; exact hl.2.2, fun p hp => q _ p (r1.rep _) hp⟩
      · exact q.elim
theorem real_mul : Real2 G oMul (rMulA G.K) := fun W dx dy x y Q k rx ry q => by
  cases dx with
  | int i =>
    cases dy with
    | int j =>
      cases rx
      cases ry
      have q : pO G W (if CMulG i j then some (.v (.int (i * j))) else none) Q := q
      split at q
      · rename_i hc
        exact .inl ⟨i, j, rfl, rfl, hc, q _ W rfl k (Ext.refl W) rfl⟩
      · exact q.elim
    | _ => exact q.elim
  | tup ds =>
    cases dy with
    | int j =>
      have q : pO G W (if ds ≠ [] ∧ 2 ≤ j ∧ j ≤ 1000 ∧ ds.length ≤ 1000 then some (.v (.tup (repD j.toNat ds))) else none) Q := q
      split at q
      · rename_i hl
        obtain ⟨a, xs, rfl, h1, n1, r1⟩ := rx
        cases ry
        refine .inr (.inl ⟨a, j, xs, rfl, rfl, .of h1, fun e => hl.1 ?_, hl.2.1, hl.2.2.1, by rw [← r1.length]; exact hl.2.2.2, fun p hp => ?_⟩)
        · have := r1.length
          rw [e] at this
          exact List.length_eq_zero_iff.mp this
        · exact q (.ref p) (W.new p (.tup _)) rfl (ok_new k hp) (ext_new k hp) ⟨p, _, rfl, upd_same, own_new k hp, (r1.rep _).mono (ext_new k hp)⟩
      · exact q.elim
    | _ => exact q.elim
  | lst ds => exact .inr (.inr (lst_rep k rx ry q))
  | loc l => exact .inr (.inr (lst_rep k rx ry q))
  | _ => exact (by
      have q : pO G W none Q := q
      exact q.elim)

/-! ### == and is -/
def scaV : D → Option V
  | .non => some .non
  | .bl b => some (.bl b)
  | .int i => some (.int i)
  | .str x => some (.str x)
  | _ => none
theorem scaV_rep {W : Wd} {d : D} {v u : V} (h : scaV d = some u) (r : Rep G W d v) : v = u := by
  cases d <;> cases h <;> exact r
def oEq : O2 := fun x y _ => (scaV x).bind fun a => (scaV y).bind fun b => if scal a b = true then some (.v (.bl (decide (a = b)))) else none
def oNe : O2 := fun x y _ => (scaV x).bind fun a => (scaV y).bind fun b => if scal a b = true then some (.v (.bl (!decide (a = b)))) else none
theorem real_eq : Real2 G oEq rEq := fun W dx dy x y Q k rx ry q => by
  unfold oEq at q
  cases e1 : scaV dx with
  | none => rw [e1] at q; exact q.elim
  | some a =>
    cases e2 : scaV dy with
    | none => rw [e1, e2] at q; exact q.elim
    | some b =>
      rw [e1, e2] at q
      have q : pO G W (if scal a b = true then some (.v (.bl (decide (a = b)))) else none) Q := q
      split at q
      · rename_i hs
        rw [scaV_rep e1 rx, scaV_rep e2 ry]
        exact ⟨hs, q _ W rfl k (Ext.refl W) rfl⟩
      · exact q.elim
theorem real_ne : Real2 G oNe rNe := fun W dx dy x y Q k rx ry q => by
  unfold oNe at q
  cases e1 : scaV dx with
  | none => rw [e1] at q; exact q.elim
  | some a =>
    cases e2 : scaV dy with
    | none => rw [e1, e2] at q; exact q.elim
    | some b =>
      rw [e1, e2] at q
      have q : pO G W (if scal a b = true then some (.v (.bl (!decide (a = b)))) else none) Q := q
      split at q
      · rename_i hs
        rw [scaV_rep e1 rx, scaV_rep e2 ry]
        exact ⟨hs, q _ W rfl k (Ext.refl W) rfl⟩
      · exact q.elim
def isNon : D → Bool
  | .non => true
  | _ => false
theorem isNon_rep {W : Wd} {d : D} {v : V} (r : Rep G W d v) : decide (v = .non) = isNon d := by
  cases d with
  | non => cases r; rfl
  | bl b => cases r; rfl
  | int b => cases r; rfl
  | str b => cases r; rfl
  | ty b => cases r; rfl
  | gr b => cases r; rfl
  | tup b => obtain ⟨a, _, rfl, _⟩ := r; rfl
  | lst b => obtain ⟨a, _, rfl, _⟩ := r; rfl
  | kt b => obtain ⟨a, _, rfl, _⟩ := r; rfl
  | loc b => obtain ⟨a, _, rfl⟩ := r; rfl
  | scr b => obtain ⟨a, rfl, _⟩ := r; rfl
  | dic => obtain ⟨a, rfl, _⟩ := r; rfl
  | exn _ _ _ _ => obtain ⟨a, _, _, rfl, _⟩ := r; rfl
def oIs : O2 := fun x y _ => match y with
  | .non => some (.v (.bl (isNon x)))
  | _ => none
def oIsNot : O2 := fun x y _ => match y with
  | .non => some (.v (.bl (!isNon x)))
  | _ => none
theorem real_is : Real2 G oIs (fun x y H Q => y = .non ∧ Q (.bl (decide (x = .non))) H) := fun W dx dy x y Q k rx ry q => by
  unfold oIs at q
  split at q
  · rw [isNon_rep rx]
    exact ⟨ry, q _ W rfl k (Ext.refl W) rfl⟩
  · exact q.elim
theorem real_isNot : Real2 G oIsNot (fun x y H Q => y = .non ∧ Q (.bl (!decide (x = .non))) H) := fun W dx dy x y Q k rx ry q => by
  unfold oIsNot at q
  split at q
  · rw [isNon_rep rx]
    exact ⟨ry, q _ W rfl k (Ext.refl W) rfl⟩
  · exact q.elim
/-- x in a sequence of scalars -/
@[simp] def scaL : List D → Option (List V)
  | [] => some []
  | d :: ds => (scaV d).bind fun v => (scaL ds).map fun vs => v :: vs
theorem scaL_rep {W : Wd} : ∀ {ds : List D} {us vs : List V}, scaL ds = some us → RepL G W ds vs → vs = us
  | [], us, vs, h, r => by cases h; exact r
  | d :: ds, us, vs, h, r => by
    obtain ⟨v, r', rfl, r1, r2⟩ := r
    unfold scaL at h
    cases e1 : scaV d with
    | none => rw [e1] at h; cases h
    | some a =>
      cases e2 : scaL ds with
      | none => rw [e1, e2] at h; cases h
      | some bs =>
        rw [e1, e2] at h
        cases h
        rw [scaV_rep e1 r1, scaL_rep e2 r2]
@[simp] def oIn (neg : Bool) : O2 := fun x y M => (scaV x).bind fun a => (seqOf y M).bind fun it => (scaL it.xs).bind fun bs => if flatV a = true ∧ bs.all flatV = true then some (.v (.bl (if neg then !inV a bs else inV a bs))) else none
theorem real_in {neg : Bool} : Real2 G (oIn neg) (rIn G.K neg) := fun W dx dy x y Q k rx ry q => by
  unfold oIn at q
  cases e1 : scaV dx with
  | none => rw [e1] at q; exact q.elim
  | some a =>
    cases e2 : seqOf dy W.M with
    | none => rw [e1, e2] at q; exact q.elim
    | some it =>
      cases e3 : scaL it.xs with
      | none => simp only [e1, e2, e3, Option.bind_some, Option.bind_none] at q; exact q.elim
      | some bs =>
        simp only [e1, e2, e3, Option.bind_some] at q
        split at q
        · rename_i hf
          obtain ⟨b, xs, rfl, hs, r⟩ := seq_now k ry e2
          rw [scaV_rep e1 rx]
          have := scaL_rep e3 r
          subst this
          exact ⟨b, xs, rfl, hs, hf.1, hf.2, q _ W rfl k (Ext.refl W) rfl⟩
        · exact q.elim

/-! ### items, len -/
@[simp] def oIx : O2 := fun x y M => (seqOf x M).bind fun it => (intOf y).bind fun i => (atI it.xs i).map .v
theorem atI_rep {W : Wd} {ds : List D} {xs : List V} {i : Int} {d : D} (r : RepL G W ds xs) (h : atI ds i = some d) : ∃ v, atI xs i = some v ∧ Rep G W d v := by
  unfold atI at h ⊢
  rw [← r.length]
  cases e : ixN ds.length i with
  | none => rw [e] at h; cases h
  | some j =>
    rw [e] at h
    obtain ⟨v, h1, h2⟩ := r.get h
    exact ⟨v, h1, h2⟩
theorem real_ix : Real2 G oIx (rIx G.K) := fun W dx dy x y Q k rx ry q => by
  unfold oIx at q
  cases e1 : seqOf dx W.M with
  | none => rw [e1] at q; exact q.elim
  | some it =>
    cases e2 : intOf dy with
    | none => rw [e1, e2] at q; exact q.elim
    | some i =>
      cases e3 : atI it.xs i with
      | none => simp only [e1, e2, e3, Option.bind_some, Option.map_none] at q; exact q.elim
      | some d =>
        simp only [e1, e2, e3, Option.bind_some, Option.map_some] at q
        have := int_eq e2
        subst this
        cases ry
        obtain ⟨b, xs, rfl, hs, r⟩ := seq_now k rx e1
        obtain ⟨v, h1, h2⟩ := atI_rep r e3
        have fin := q v W rfl k (Ext.refl W) h2
        rcases hs with hs | hs
        · exact .inl ⟨b, xs, i, v, rfl, rfl, hs, h1, fin⟩
        · exact .inr (.inl ⟨b, xs, i, v, rfl, rfl, hs, h1, fin⟩)
variable {a b : Expr} {ma mb : EM}
theorem de_ix (ha : DE Γ a ma) (hb : DE Γ b mb) (hs : PlainIx b := by intro _ _; rfl) : DE Γ (.Subscript a b pos) (eBin false oIx ma mb) := pe_imp (pe_ix ix_seq ha hb hs) fun _ _ _ q => tOp_of (by rw [Γ.hK]; exact real_ix) q
theorem de_add (own : Bool) (ha : DE Γ a ma) (hb : DE Γ b mb) : DE Γ (.BinOp a .Add b pos) (eBin own oAdd ma mb) := de_bin own (by rw [Γ.hK]; exact real_add) op_addA ha hb
theorem de_mul (own : Bool) (ha : DE Γ a ma) (hb : DE Γ b mb) : DE Γ (.BinOp a .Mult b pos) (eBin own oMul ma mb) := de_bin own (by rw [Γ.hK]; exact real_mul) op_mulA ha hb
theorem de_sub (ha : DE Γ a ma) (hb : DE Γ b mb) : DE Γ (.BinOp a .Sub b pos) (eBin false oSub ma mb) := de_bin false real_sub op_sub ha hb
theorem de_div (ha : DE Γ a ma) (hb : DE Γ b mb) : DE Γ (.BinOp a .FloorDiv b pos) (eBin false oDiv ma mb) := de_bin false real_div op_fdivG ha hb
theorem de_mod (ha : DE Γ a ma) (hb : DE Γ b mb) : DE Γ (.BinOp a .Mod b pos) (eBin false oMod ma mb) := de_bin false real_mod op_modN ha hb
theorem de_pow (ha : DE Γ a ma) (hb : DE Γ b mb) : DE Γ (.BinOp a .Pow b pos) (eBin false oPow ma mb) := de_bin false real_pow op_pow ha hb
theorem de_neg (ha : DE Γ a ma) : DE Γ (.UnaryOp .USub a pos) (eUn false oNeg ma) := de_un false real_neg un_neg ha
/-- a comparison's rule -/
structure CmpD (X : Cx) (G : Gd) (op : CmpOp) (g : O2) : Prop where
  ex : ∃ r, OpR X (compareOp op) r ∧ Real2 G g r
theorem c_lt : CmpD X G .Lt oLt := ⟨_, op_lt, real_lt⟩
theorem c_le : CmpD X G .LtE oLe := ⟨_, op_le, real_le⟩
theorem c_gt : CmpD X G .Gt oGt := ⟨_, op_gt, real_gt⟩
theorem c_ge : CmpD X G .GtE oGe := ⟨_, op_ge, real_ge⟩
theorem c_eq : CmpD X G .Eq oEq := ⟨_, op_eq, real_eq⟩
theorem c_ne : CmpD X G .NotEq oNe := ⟨_, op_ne, real_ne⟩
theorem c_is : CmpD X G .Is oIs := ⟨_, op_isN, real_is⟩
theorem c_isNot : CmpD X G .IsNot oIsNot := ⟨_, op_notN, real_isNot⟩
theorem c_in (h : X.K = G.K) : CmpD X G .In (oIn false) := ⟨_, op_in_seq, by rw [h]; exact real_in⟩
theorem c_notIn (h : X.K = G.K) : CmpD X G .NotIn (oIn true) := ⟨_, op_notIn_seq, by rw [h]; exact real_in⟩
theorem de_c {op : CmpOp} {g : O2} (c : CmpD X G op g) (ha : DE Γ a ma) (hb : DE Γ b mb) (hm : behindInMarks op b = false := by first | exact nomark _ | rfl) : DE Γ (.Compare a [op] [b] pos) (eBin false g ma mb) :=
  let ⟨_, h1, h2⟩ := c.ex; de_cmp h2 h1 ha hb hm
theorem dt_c {op : CmpOp} {g : O2} (c : CmpD X G op g) (ha : DE Γ a ma) (hb : DE Γ b mb) (hm : behindInMarks op b = false := by first | exact nomark _ | rfl) : DT Γ (.Compare a [op] [b] pos) (asB (eBin false g ma mb)) :=
  let ⟨_, h1, h2⟩ := c.ex; dt_cmp h2 h1 ha hb hm
theorem dt_c2 {c : Expr} {mc : EM} {op op' : CmpOp} {f f' : Int → Int → Option D} (c1 : CmpD X G op (int2 f)) (c2 : CmpD X G op' (int2 f')) (ha : DE Γ a ma) (hb : DE Γ b mb) (hc : DE Γ c mc)
    (hm : lastMarks [op, op'] [b, c] = false := by with_unfolding_all rfl) : DT Γ (.Compare a [op, op'] [b, c] pos) (asB (eChain (int2 f) (int2 f') ma mb mc)) :=
  let ⟨_, h1, h2⟩ := c1.ex; let ⟨_, h3, h4⟩ := c2.ex; dt_chain h2 h4 int2_v h1 h3 ha hb hc hm

/-! ### built-ins -/
def oLen : OA := fun ds M => match ds with
  | [d] => (seqOf d M).map fun it => .v (.int it.xs.length)
  | _ => none
theorem real_len : RealA G oLen (fun xs H Q => ∃ x n, xs = [x] ∧ LenV G.K x H n ∧ Q (.int n) H) := fun W ds xs Q k r q => by
  unfold oLen at q
  split at q
  · rename_i d
    obtain ⟨v, rfl, r1⟩ := RepL.one r
    cases e : seqOf d W.M with
    | none => rw [e] at q; exact q.elim
    | some it =>
      rw [e] at q
      obtain ⟨b, ys, rfl, hs, r2⟩ := seq_now k r1 e
      have q : ∀ v W', W'.M = W.M → WOk G W' → Ext W W' → Rep G W' (.int it.xs.length) v → Q v W'.H := q
      refine ⟨.ref b, it.xs.length, rfl, ?_, q _ W rfl k (Ext.refl W) rfl⟩
      rcases hs with hs | hs
      · exact .inl ⟨ys, hs, r2.length⟩
      · exact .inr ⟨ys, hs, r2.length⟩
  · exact q.elim
def oAbs : OA := fun ds _ => match ds with
  | [.int i] => some (.v (.int (if i < 0 then -i else i)))
  | _ => none
theorem real_abs : RealA G oAbs (fun xs H Q => ∃ i, xs = [.int i] ∧ Q (.int (if i < 0 then -i else i)) H) := fun W ds xs Q k r q => by
  unfold oAbs at q
  split at q
  · obtain ⟨v, rfl, r1⟩ := RepL.one r
    cases r1
    exact ⟨_, rfl, q _ W rfl k (Ext.refl W) rfl⟩
  · exact q.elim
def oInt : OA := fun ds _ => match ds with
  | [.int i] => some (.v (.int i))
  | [.bl b] => some (.v (.int (if b then 1 else 0)))
  | _ => none
theorem real_int : RealA G oInt (fun xs H Q => (∃ i, xs = [.int i] ∧ Q (.int i) H) ∨ ∃ k, xs = [.bl k] ∧ Q (.int (if k then 1 else 0)) H) := fun W ds xs Q k r q => by
  unfold oInt at q
  split at q
  · obtain ⟨v, rfl, r1⟩ := RepL.one r
    cases r1
    exact .inl ⟨_, rfl, q _ W rfl k (Ext.refl W) rfl⟩
  · obtain ⟨v, rfl, r1⟩ := RepL.one r
    cases r1
    exact .inr ⟨_, rfl, q _ W rfl k (Ext.refl W) rfl⟩
  · exact q.elim
def oMax2 : OA := fun ds _ => match ds with
  | [.int i, .int j] => some (.v (.int (if j > i then j else i)))
  | _ => none
def oMin2 : OA := fun ds _ => match ds with
  | [.int i, .int j] => some (.v (.int (if j < i then j else i)))
  | _ => none
theorem real_max2 : RealA G oMax2 (fun xs H Q => ∃ i j, xs = [.int i, .int j] ∧ Q (.int (if j > i then j else i)) H) := fun W ds xs Q k r q => by
  unfold oMax2 at q
  split at q
  · obtain ⟨v, u, rfl, r1, r2⟩ := RepL.two r
    cases r1
    cases r2
    exact ⟨_, _, rfl, q _ W rfl k (Ext.refl W) rfl⟩
  · exact q.elim
theorem real_min2 : RealA G oMin2 (fun xs H Q => ∃ i j, xs = [.int i, .int j] ∧ Q (.int (if j < i then j else i)) H) := fun W ds xs Q k r q => by
  unfold oMin2 at q
  split at q
  · obtain ⟨v, u, rfl, r1, r2⟩ := RepL.two r
    cases r1
    cases r2
    exact ⟨_, _, rfl, q _ W rfl k (Ext.refl W) rfl⟩
  · exact q.elim
def oGcd : OA := fun ds _ => match ds with
  | [.int i, .int j] => some (.v (.int ((Nat.gcd i.natAbs j.natAbs : Nat) : Int)))
  | _ => none
theorem real_gcd : RealA G oGcd rGcd := fun W ds xs Q k r q => by
  unfold oGcd at q
  split at q
  · obtain ⟨v, u, rfl, r1, r2⟩ := RepL.two r
    cases r1
    cases r2
    exact ⟨_, _, rfl, q _ W rfl k (Ext.refl W) rfl⟩
  · exact q.elim
@[simp] def intsOf : List D → Option (List Int)
  | [] => some []
  | d :: ds => (intOf d).bind fun i => (intsOf ds).map fun is => i :: is
theorem intsOf_eq : ∀ {ds : List D} {is : List Int}, intsOf ds = some is → ds = is.map .int
  | [], is, h => by cases h; rfl
  | d :: ds, is, h => by
    unfold intsOf at h
    cases e1 : intOf d with
    | none => rw [e1] at h; cases h
    | some i =>
      cases e2 : intsOf ds with
      | none => rw [e1, e2] at h; cases h
      | some js =>
        rw [e1, e2] at h
        cases h
        rw [int_eq e1, intsOf_eq e2]
        rfl
@[simp] theorem intsOf_map : ∀ is : List Int, intsOf (is.map D.int) = some is
  | [] => rfl
  | i :: is => by
    show ((intOf (.int i)).bind fun i => (intsOf (is.map D.int)).map fun is => i :: is) = _
    rw [intsOf_map is]
    rfl
@[simp] def blsOf : List D → Option (List Bool)
  | [] => some []
  | d :: ds => match d with
    | .bl b => (blsOf ds).map fun is => b :: is
    | _ => none
theorem blsOf_eq : ∀ {ds : List D} {is : List Bool}, blsOf ds = some is → ds = is.map .bl
  | [], is, h => by cases h; rfl
  | d :: ds, is, h => by
    unfold blsOf at h
    split at h
    · cases e2 : blsOf ds with
      | none => rw [e2] at h; cases h
      | some js =>
        rw [e2] at h
        cases h
        rw [blsOf_eq e2]
        rfl
    · cases h
@[simp] theorem blsOf_map : ∀ is : List Bool, blsOf (is.map D.bl) = some is
  | [] => rfl
  | i :: is => by
    show ((blsOf (is.map D.bl)).map fun is => i :: is) = _
    rw [blsOf_map is]
    rfl
/-- of a list of ints -/
def oInts (f : List Int → Option D) : OA := fun ds M => match ds with
  | [d] => (lstOf d M).bind fun it => (intsOf it.xs).bind fun is => (f is).map .v
  | _ => none
def oBls (f : List Bool → D) : OA := fun ds M => match ds with
  | [d] => (lstOf d M).bind fun it => (blsOf it.xs).map fun is => .v (f is)
  | _ => none
theorem lst_now {W : Wd} {d : D} {v : V} {it : ItD} (k : WOk G W) (r : Rep G W d v) (h : lstOf d W.M = some it) : ∃ a xs, v = .ref a ∧ SqL G.K W.H a xs ∧ RepL G W it.xs xs := by
  obtain ⟨a, rfl, f⟩ := lst_at r h
  have hc : Chk it.src W.M := by
    cases d with
    | loc l =>
      have h1 : (match W.M[l]? with
        | some (some ds) => some { xs := ds, src := [(l, ds)] }
        | _ => none) = some it := h
      split at h1
      · rename_i ds ed
        cases h1
        intro p hp
        have : p = (l, ds) := by simpa using hp
        rw [this]
        exact ed
      · cases h1
    | lst ds => cases h; exact fun p hp => nomatch hp
    | scr ds => cases h; exact fun p hp => nomatch hp
    | _ => cases h
  obtain ⟨xs, h2, h3⟩ := f W k (Ext0.refl W) hc
  exact ⟨a, xs, rfl, h2, h3⟩
def oSum : OA := oInts fun is => some (.int is.sum)
theorem oInts_real {f : List Int → Option D} {r : List V → Hp → VK → Prop} (h : ∀ (W : Wd) (a : Addr) (is : List Int) (d : D) (Q : VK), WOk G W → SqL G.K W.H a (is.map V.int) → f is = some d → (∀ v W', W'.M = W.M → WOk G W' → Ext W W' → Rep G W' d v → Q v W'.H) → r [.ref a] W.H Q) : RealA G (oInts f) r := fun W ds xs Q k rr q => by
  unfold oInts at q
  split at q
  · rename_i d
    obtain ⟨v, rfl, r1⟩ := RepL.one rr
    cases e : lstOf d W.M with
    | none => rw [e] at q; exact q.elim
    | some it =>
      cases e2 : intsOf it.xs with
      | none => simp only [e, e2, Option.bind_some, Option.bind_none] at q; exact q.elim
      | some is =>
        cases e3 : f is with
        | none => simp only [e, e2, e3, Option.bind_some, Option.map_none] at q; exact q.elim
        | some d' =>
          simp only [e, e2, e3, Option.bind_some, Option.map_some] at q
          obtain ⟨b, ys, rfl, hs, r2⟩ := lst_now k r1 e
          rw [intsOf_eq e2] at r2
          have := RepL.ints r2
          subst this
          exact h W b is d' Q k hs e3 q
  · exact q.elim
theorem oBls_real {f : List Bool → D} {r : List V → Hp → VK → Prop} (h : ∀ (W : Wd) (a : Addr) (is : List Bool) (Q : VK), WOk G W → SqL G.K W.H a (is.map V.bl) → (∀ v W', W'.M = W.M → WOk G W' → Ext W W' → Rep G W' (f is) v → Q v W'.H) → r [.ref a] W.H Q) : RealA G (oBls f) r := fun W ds xs Q k rr q => by
  unfold oBls at q
  split at q
  · rename_i d
    obtain ⟨v, rfl, r1⟩ := RepL.one rr
    cases e : lstOf d W.M with
    | none => rw [e] at q; exact q.elim
    | some it =>
      cases e2 : blsOf it.xs with
      | none => simp only [e, e2, Option.bind_some, Option.map_none] at q; exact q.elim
      | some is =>
        simp only [e, e2, Option.bind_some, Option.map_some] at q
        obtain ⟨b, ys, rfl, hs, r2⟩ := lst_now k r1 e
        rw [blsOf_eq e2] at r2
        have := RepL.bls r2
        subst this
        exact h W b is Q k hs q
  · exact q.elim
theorem real_sum : RealA G oSum (rSum G.K) := oInts_real fun W a is d Q k hs e q => by
  cases e
  exact ⟨a, is, rfl, hs, q _ W rfl k (Ext.refl W) rfl⟩
def oAll : OA := oBls fun bs => .bl (bs.all id)
def oAny : OA := oBls fun bs => .bl (bs.any id)
theorem real_all : RealA G oAll (rAll G.K) := oBls_real fun W a is Q k hs q => ⟨a, is, rfl, hs, q _ W rfl k (Ext.refl W) rfl⟩
theorem real_any : RealA G oAny (rAny G.K) := oBls_real fun W a is Q k hs q => ⟨a, is, rfl, hs, q _ W rfl k (Ext.refl W) rfl⟩
def maxL : List Int → Option Int
  | [] => none
  | i :: is => some (is.foldl max i)
def minL : List Int → Option Int
  | [] => none
  | i :: is => some (is.foldl min i)
theorem foldl_max_spec : ∀ (is : List Int) (i : Int), (is.foldl max i = i ∨ is.foldl max i ∈ is) ∧ i ≤ is.foldl max i ∧ ∀ y ∈ is, y ≤ is.foldl max i
  | [], i => ⟨.inl rfl, Int.le_refl _, fun _ h => nomatch h⟩
  | j :: is, i => by
    obtain ⟨h1, h2, h3⟩ := foldl_max_spec is (max i j)
    refine ⟨?_, by simp only [List.foldl_cons]; omega, fun y hy => ?_⟩
    · simp only [List.foldl_cons, List.mem_cons]
      rcases h1 with h1 | h1
      · rw [h1]; omega
      · exact .inr (.inr h1)
    · simp only [List.foldl_cons]
      rcases List.mem_cons.mp hy with e | e
      · subst e; omega
      · exact h3 y e
theorem foldl_min_spec : ∀ (is : List Int) (i : Int), (is.foldl min i = i ∨ is.foldl min i ∈ is) ∧ is.foldl min i ≤ i ∧ ∀ y ∈ is, is.foldl min i ≤ y
  | [], i => ⟨.inl rfl, Int.le_refl _, fun _ h => nomatch h⟩
  | j :: is, i => by
    obtain ⟨h1, h2, h3⟩ := foldl_min_spec is (min i j)
    refine ⟨?_, by simp only [List.foldl_cons]; omega, fun y hy => ?_⟩
    · simp only [List.foldl_cons, List.mem_cons]
      rcases h1 with h1 | h1
      · rw [h1]; omega
      · exact .inr (.inr h1)
    · simp only [List.foldl_cons]
      rcases List.mem_cons.mp hy with e | e
      · subst e; omega
      · exact h3 y e
def oMaxL : OA := oInts fun is => (maxL is).map .int
def oMinL : OA := oInts fun is => (minL is).map .int
theorem real_maxL : RealA G oMaxL (rMax G.K) := oInts_real fun W a is d Q k hs e q => by
  cases is with
  | nil => cases e
  | cons i is =>
    cases e
    refine ⟨a, i :: is, rfl, hs, by simp, fun m hm hl => ?_⟩
    obtain ⟨h1, h2, h3⟩ := foldl_max_spec is i
    have : m = is.foldl max i := by
      have a1 := hl (is.foldl max i) (by
        rcases h1 with h1 | h1
        · rw [h1]; exact List.mem_cons_self
        · exact List.mem_cons_of_mem _ h1)
      rcases List.mem_cons.mp hm with e | e
      · omega
      · have := h3 m e; omega
    rw [this]
    exact q _ W rfl k (Ext.refl W) rfl
theorem real_minL : RealA G oMinL (rMin G.K) := oInts_real fun W a is d Q k hs e q => by
  cases is with
  | nil => cases e
  | cons i is =>
    cases e
    refine ⟨a, i :: is, rfl, hs, by simp, fun m hm hl => ?_⟩
    obtain ⟨h1, h2, h3⟩ := foldl_min_spec is i
    have : m = is.foldl min i := by
      have a1 := hl (is.foldl min i) (by
        rcases h1 with h1 | h1
        · rw [h1]; exact List.mem_cons_self
        · exact List.mem_cons_of_mem _ h1)
      rcases List.mem_cons.mp hm with e | e
      · omega
      · have := h3 m e; omega
    rw [this]
    exact q _ W rfl k (Ext.refl W) rfl
/-- list(..), tuple(..) of a list or a tuple -/
def oList : OA := fun ds M => match ds with
  | [d] => (seqOf d M).map fun it => .l it.xs
  | _ => none
theorem real_list : RealA G oList (fun xs H Q => ∃ p ys, xs = [.ref p] ∧ (SqL G.K H p ys ∨ SqT G.K H p ys) ∧ ∀ l, H l = none → Q (.ref l) (upd H l (.lst ys))) := fun W ds xs Q k r q => by
  unfold oList at q
  split at q
  · rename_i d
    obtain ⟨v, rfl, r1⟩ := RepL.one r
    cases e : seqOf d W.M with
    | none => rw [e] at q; exact q.elim
    | some it =>
      rw [e] at q
      obtain ⟨b, ys, rfl, hs, r2⟩ := seq_now k r1 e
      exact ⟨b, ys, rfl, hs, fun l hl => q ys l r2 hl⟩
  · exact q.elim
def oTuple : OA := fun ds M => match ds with
  | [d] => match d with
    | .tup ds => some (.v (.tup ds))
    | .kt ds => some (.v (.kt ds))
    | _ => (lstOf d M).map fun it => .v (.tup it.xs)
  | _ => none
theorem real_tuple : RealA G oTuple (fun xs H Q => ∃ p ys, xs = [.ref p] ∧ ((SqL G.K H p ys ∧ ∀ l, H l = none → Q (.ref l) (upd H l (.tup ys))) ∨ (SqT G.K H p ys ∧ Q (.ref p) H))) := fun W ds xs Q k r q => by
  have lst : ∀ (d : D) (v : V), Rep G W d v → pO G W ((lstOf d W.M).map fun it => .v (.tup it.xs)) Q → ∃ p ys, [v] = [.ref p] ∧ ((SqL G.K W.H p ys ∧ ∀ l, W.H l = none → Q (.ref l) (upd W.H l (.tup ys))) ∨ (SqT G.K W.H p ys ∧ Q (.ref p) W.H)) := fun d v r1 q => by
    cases e : lstOf d W.M with
    | none => rw [e] at q; exact q.elim
    | some it =>
      rw [e] at q
      obtain ⟨b, ys, rfl, hs, r2⟩ := lst_now k r1 e
      exact ⟨b, ys, rfl, .inl ⟨hs, fun l hl => q (.ref l) (W.new l (.tup ys)) rfl (ok_new k hl) (ext_new k hl) ⟨l, ys, rfl, upd_same, own_new k hl, r2.mono (ext_new k hl)⟩⟩⟩
  unfold oTuple at q
  split at q
  · rename_i d
    obtain ⟨v, rfl, r1⟩ := RepL.one r
    cases d with
    | tup es =>
      obtain ⟨a, ys, rfl, h1, n1, r2⟩ := r1
      exact ⟨a, ys, rfl, .inr ⟨.of h1, q _ W rfl k (Ext.refl W) ⟨a, ys, rfl, h1, n1, r2⟩⟩⟩
    | kt es =>
      obtain ⟨a, ys, rfl, h1, r2⟩ := r1
      exact ⟨a, ys, rfl, .inr ⟨h1.sq rfl, q _ W rfl k (Ext.refl W) ⟨a, ys, rfl, h1, r2⟩⟩⟩
    | _ => exact lst _ _ r1 q
  · exact q.elim
/-- sorted of ints -/
def oSorted : OA := fun ds M => match ds with
  | [d] => (lstOf d M).bind fun it => (intsOf it.xs).map fun is => .l ((is.mergeSort (fun a b => decide (a ≤ b))).map .int)
  | _ => none
theorem sorted_one {l l' : List Int} (h1 : l'.Perm l) (h2 : l'.Pairwise (· ≤ ·)) : l' = l.mergeSort (fun a b => decide (a ≤ b)) := by
  refine List.Perm.eq_of_pairwise (le := (· ≤ ·)) (fun a b _ _ h h' => Int.le_antisymm h h') h2 ?_ (h1.trans (List.mergeSort_perm l _).symm)
  have := List.pairwise_mergeSort (le := fun a b : Int => decide (a ≤ b)) (fun a b c h h' => by simp at *; omega) (fun a b => by simp; omega) l
  exact this.imp fun h => by simpa using h
theorem real_sorted : RealA G oSorted (rSortedI G.K) := fun W ds xs Q k r q => by
  unfold oSorted at q
  split at q
  · rename_i d
    obtain ⟨v, rfl, r1⟩ := RepL.one r
    cases e : lstOf d W.M with
    | none => rw [e] at q; exact q.elim
    | some it =>
      cases e2 : intsOf it.xs with
      | none => simp only [e, e2, Option.bind_some, Option.map_none] at q; exact q.elim
      | some is =>
        simp only [e, e2, Option.bind_some, Option.map_some] at q
        obtain ⟨b, ys, rfl, hs, r2⟩ := lst_now k r1 e
        rw [intsOf_eq e2] at r2
        have := RepL.ints r2
        subst this
        refine ⟨b, is, rfl, hs, fun ns' p h1 h2 hp => ?_⟩
        rw [sorted_one h1 h2]
        exact q _ p (RepL.of_ints _) hp
  · exact q.elim
/-! ### isinstance -/
def tyOf : D → Option String
  | .non => some "NoneType"
  | .bl _ => some "bool"
  | .int _ => some "int"
  | .str _ => some "str"
  | .tup _ => some "tuple"
  | .lst _ => some "list"
  | .kt _ => some "tuple"
  | .dic => some "dict"
  | _ => none
def tyOfM (d : D) (M : Mem) : Option String := match d with
  | .loc l => (memAt M l).map fun _ => "list"
  | d => tyOf d
def isTy (t n : String) : Bool := t == n || (t == "bool" && n == "int")
def tys : List String := ["NoneType", "bool", "int", "str", "tuple", "list", "dict"]
theorem kit_all : tys.all (fun t => tys.all fun n => n == "NoneType" || kitB t n == some (isTy t n)) = true := by decide +kernel
theorem kit_at {t n : String} {K : PySem.W.Frag} (h1 : t ∈ tys) (h2 : n ∈ tys) (h3 : n ≠ "NoneType") : PySem.W.kitOne K (.type t) (.type n) = some (isTy t n) := by
  have h := List.all_eq_true.mp (List.all_eq_true.mp kit_all t h1) n h2
  rw [Bool.or_eq_true] at h
  rcases h with h | h
  · exact absurd (by simpa using h) h3
  · exact kit_ty (by simpa using h)
theorem tyOf_mem {d : D} {t : String} (h : tyOf d = some t) : t ∈ tys := by
  cases d <;> cases h <;> decide
theorem ty_x {W : Wd} {d : D} {v : V} {t : String} (k : WOk G W) (r : Rep G W d v) (h : tyOfM d W.M = some t) : TyX G.K W.H v (.type t) ∧ t ∈ tys := by
  cases d with
  | loc l =>
    cases e : memAt W.M l with
    | none =>
      have h : (memAt W.M l).map (fun _ => "list") = some t := h
      rw [e] at h; cases h
    | some ds =>
      have h : (memAt W.M l).map (fun _ => "list") = some t := h
      rw [e] at h
      cases h
      obtain ⟨a, h1, rfl⟩ := r
      obtain ⟨a', xs, h2, h3, _⟩ := k.there l ds (mem_eq e)
      rw [h1] at h2
      cases h2
      exact ⟨.base (.lst h3), show "list" ∈ tys by decide⟩
  | non => cases r; cases h; exact ⟨.base .non, by decide⟩
  | bl b => cases r; cases h; exact ⟨.base (.bl _), by decide⟩
  | int b => cases r; cases h; exact ⟨.base (.int _), by decide⟩
  | str b => cases r; cases h; exact ⟨.base (.str _), by decide⟩
  | tup ds => obtain ⟨a, xs, rfl, h1, _⟩ := r; cases h; exact ⟨.base (.tup h1), by decide⟩
  | lst ds => obtain ⟨a, xs, rfl, h1, _⟩ := r; cases h; exact ⟨.base (.lst h1), by decide⟩
  | kt ds =>
    obtain ⟨a, xs, rfl, ⟨o, its, n, h1, h2, h3, h4, h5⟩, _⟩ := r
    cases h
    exact ⟨.kTuple h1 h2, by decide⟩
  | dic => obtain ⟨a, rfl, h1, _⟩ := r; cases h; exact ⟨.base (.dK h1), by decide⟩
  | _ => cases h
@[simp] def tyNames : List D → Option (List String)
  | [] => some []
  | d :: ds => match d with
    | .ty n => (tyNames ds).map fun r => n :: r
    | _ => none
def oIsi : OA := fun ds M => match ds with
  | [d, .ty n] => (tyOfM d M).bind fun t => if n ∈ tys ∧ n ≠ "NoneType" then some (.v (.bl (isTy t n))) else none
  | [d, .tup cs] => (tyOfM d M).bind fun t => (tyNames cs).bind fun ns => if (ns.all fun n => decide (n ∈ tys) && decide (n ≠ "NoneType")) = true then some (.v (.bl (ns.any (isTy t)))) else none
  | _ => none
theorem tyNames_rep {W : Wd} : ∀ {cs : List D} {ns : List String} {vs : List V}, tyNames cs = some ns → RepL G W cs vs → vs = ns.map V.ty
  | [], ns, vs, h, r => by cases h; exact r
  | d :: ds, ns, vs, h, r => by
    unfold tyNames at h
    split at h
    · rename_i n
      cases e : tyNames ds with
      | none => rw [e] at h; cases h
      | some ms =>
        rw [e] at h
        cases h
        obtain ⟨v, r', rfl, r1, r2⟩ := r
        cases r1
        rw [tyNames_rep e r2]
        rfl
    · cases h
theorem kitAny_all {K : PySem.W.Frag} {t : String} (ht : t ∈ tys) : ∀ {ns : List String}, (ns.all fun n => decide (n ∈ tys) && decide (n ≠ "NoneType")) = true → PySem.W.kitAny K (.type t) (ns.map Value.type) = some (ns.any (isTy t))
  | [], _ => kitAny_nil
  | n :: ns, h => by
    rw [List.all_cons, Bool.and_eq_true, Bool.and_eq_true, decide_eq_true_eq, decide_eq_true_eq] at h
    refine kitAny_cons (kit_at ht h.1.1 h.1.2) (fun e => ?_) (fun e => ?_)
    · rw [List.any_cons, e, Bool.false_or]
      exact kitAny_all ht h.2
    · rw [List.any_cons, e, Bool.true_or]
theorem clsV_tys : ∀ ns : List String, Paired ClsV (ns.map V.ty) (ns.map Value.type)
  | [] => .nil
  | n :: ns => .cons (.ty n) (clsV_tys ns)
theorem real_isi : RealA G oIsi (fun xs H Q => rIsi G.K xs H Q ∨ rIsiT G.K xs H Q) := fun W ds xs Q k r q => by
  unfold oIsi at q
  split at q
  · rename_i d n
    obtain ⟨v, u, rfl, r1, r2⟩ := RepL.two r
    cases e : tyOfM d W.M with
    | none => rw [e] at q; exact q.elim
    | some t =>
      rw [e] at q
      have q : pO G W (if n ∈ tys ∧ n ≠ "NoneType" then some (.v (.bl (isTy t n))) else none) Q := q
      split at q
      · rename_i hn
        cases r2
        obtain ⟨h1, h2⟩ := ty_x k r1 e
        exact .inl ⟨v, .ty n, .type t, .type n, isTy t n, rfl, .ty n, h1, kit_at h2 hn.1 hn.2, q _ W rfl k (Ext.refl W) rfl⟩
      · exact q.elim
  · rename_i d cs
    obtain ⟨v, u, rfl, r1, r2⟩ := RepL.two r
    cases e : tyOfM d W.M with
    | none => rw [e] at q; exact q.elim
    | some t =>
      cases e2 : tyNames cs with
      | none => simp only [e, e2, Option.bind_some, Option.bind_none] at q; exact q.elim
      | some ns =>
        simp only [e, e2, Option.bind_some] at q
        split at q
        · rename_i hn
          obtain ⟨a, ys, rfl, h3, _, r3⟩ := r2
          have := tyNames_rep e2 r3
          subst this
          obtain ⟨h1, h2⟩ := ty_x k r1 e
          exact .inr ⟨v, a, _, .type t, ns.map Value.type, ns.any (isTy t), rfl, h3, clsV_tys ns, h1, kitAny_all h2 hn, q _ W rfl k (Ext.refl W) rfl⟩
        · exact q.elim
  · exact q.elim
end
end DM

/-! DM: try with several clauses «except X as n», isinstance of what is handled. -/
namespace DM
open PySem PySem.Spec PyProof.Rows L2
def wManyA (K : PySem.W.Frag) (Wout : WX) (D : Ends) : List (Value × Nat × (Addr → Value → Option Addr → TS)) → WX
  | [] => Wout
  | (c, i, ts) :: r => fun cls d σ H => ∃ b, PySem.W.exmOne K cls c = some b ∧ (b = true → ∀ a, H a = none → ts a cls d { nx := fun σ' H' => D.nx (σ'.set i none) H', rt := D.rt, bk := fun σ' H' => D.bk (σ'.set i none) H', ct := fun σ' H' => D.ct (σ'.set i none) H' } (σ.set i (some (.ref a))) H) ∧ (b = false → wManyA K Wout D r cls d σ H)
inductive HdsA (X : Cx) : List ExceptHandler → List (Value × Nat × (Addr → Value → Option Addr → TS)) → Prop
  | nil : HdsA X [] []
  | cons {x n : Str} {i : Nat} {c : Value} {ts : Addr → Value → Option Addr → TS} {b₀ : Stmt} {suite : List Stmt} {np pos' : Pos} {hds : List ExceptHandler} {l : List (Value × Nat × (Addr → Value → Option Addr → TS))} (hc : Names X x c) (hi : X.N[i]? = some n) (hln : X.env.kindOf n = some .local)
      (hsu : ∀ (a : Addr) (oe : Obj) (cls : Value) (d : Option Addr) (pn : List (Addr × Obj)), Zc cls d oe → (∃ vs, oe.data = .fields vs) → PSs (X.suite a ((a, oe) :: pn)) (b₀ :: suite) (ts a cls d)) (r : HdsA X hds l) :
      HdsA X (.ExceptHandler (some (.Name x np)) (some n) (b₀ :: suite) pos' :: hds) ((c, i, ts) :: l)
section
variable {X : Cx} {body : List Stmt} {h₀ : ExceptHandler} {hds : List ExceptHandler} {l : List (Value × Nat × (Addr → Value → Option Addr → TS))} {pos : Pos} {tb : WX → TS} {Wout : WX}
theorem ps_try_manyA (hs : X.stack = X.env :: X.outer) (hf : X.env.frame = some X.env.locals) (hN : X.N.Nodup) (tk : Takes X Wout)
    (hb : ∀ (W : WX) (pn : List (Addr × Obj)) (xe : Value → Shared → Prop), Takes (X.tr pn xe) W → PassesOwn (model X.prog X.w) X.A X.env xe → PSs (X.tr pn xe) body (tb W))
    (hh : HdsA X (h₀ :: hds) l) : PS X (.Try body (h₀ :: hds) [] [] pos) (fun D σ H => tb (wManyA X.K Wout D l) D σ H) := by
  refine ⟨fun pins s σ H D I h => ?_⟩
  have ok := I.ok
  have hfr : X.A.frames = some (X.env :: X.outer) := by rw [ok.frames, hs]
  refine wpAny_Try_except ?_
  refine wpAny_mono ((hb (wManyA X.K Wout D l) (X.pn ++ pins) (fun e s₁ => wpAny (model X.prog X.w) X.A (noteFrame e X.env) (fun _ s₂ => wpAny (model X.prog X.w) X.A (setFlight e none) (fun _ s₃ =>
    wpAny (model X.prog X.w) X.A (handleBy e X.env (h₀ :: hds)) (SP X pins D) X.xe s₃) X.xe s₂) X.xe s₁) (fun u s' xx => ?_) PassesOwn.looking).run [] s σ H D (I.toTry _) h) (fun f s1 hsp => ?_) (fun e s1 he => he)
  · obtain ⟨a, B, sI, pins', σ', H', cls, d, rfl, J', nb, up, sky, na, os, ag, w⟩ := xx
    have J : Inv X pins σ' H' sI := J'.ofTry ok
    have sky' : Sky B (X.env :: X.outer) a (Zc cls d) X.env.locals s'.heap := by rw [← hs]; exact sky
    show wpAny (model X.prog X.w) X.A (noteFrame (.ref a) X.env) _ _ _
    refine Sky.land Zc.steady hfr hf sky' fun h3 fl3 up3 => ?_
    have J3 : Inv X pins σ' H' { s' with heap := h3 } := J.landed nb fl3.1 (up.trans up3) os ag
    obtain ⟨oe3, vs3, he3, hz3, hd3⟩ := fl3.there
    have notFr : ∀ {h : Heap} {o : Obj} {vs : Array Value}, h.FunFrames B (X.env :: X.outer) → h.get? a = some o → o.data = .fields vs → a ∉ frs (X.env :: X.outer) := fun {h o vs} ff e dd hm => by
      obtain ⟨_, o', e', hnf⟩ := ff.mem hm
      rw [e] at e'; cases e'
      exact hnf _ dd
    have nfr := notFr fl3.2.2.1 he3 hd3
    have nL : a ≠ X.env.locals := fun z => nfr (List.mem_filterMap.mpr ⟨X.env, List.mem_cons_self, by rw [hf, z]⟩)
    have nF : a ∉ X.fs := fun hm => by
      obtain ⟨e, he, q⟩ := List.mem_filterMap.mp hm
      exact nfr (List.mem_filterMap.mpr ⟨e, List.mem_cons_of_mem _ he, q⟩)
    have S3 := J3.suite he3 hd3 na nL nF
    have go : ∀ {hds' : List ExceptHandler} {l' : List (Value × Nat × (Addr → Value → Option Addr → TS))}, HdsA X hds' l' → wManyA X.K Wout D l' cls d σ' H' →
        wpAny (model X.prog X.w) X.A (handleBy (.ref a) X.env hds') (SP X pins D) X.xe { s' with heap := h3 } := by
      intro hds' l' hk
      induction hk with
      | nil =>
        intro w
        refine wpAny_handleBy_nil ?_
        obtain ⟨k1, k2, k3, oe, vs, T, oT, ts', he, hz, hd, h1, hr⟩ := id fl3
        unfold PySem.passOn
        refine wpAny_bind (wpAny_field he hd h1 ?_)
        rw [if_neg (show ¬ ((Value.ref T == Value.none) = true) from by simp)]
        have fin : wpAny (model X.prog X.w) X.A (setFlight (.ref a) X.env.frame) (fun _ s4 => wpAny (model X.prog X.w) X.A (throw (.ref a) : Sem Flow) (SP X pins D) X.xe s4) X.xe { s' with heap := h3 } := by
          rw [hf]
          refine HandSPX.setFlight_upZ fl3 fun h4 hh4 up4 => wpAny_throw (tk _ _ ?_)
          exact ⟨a, B, sI, pins, σ', H', cls, d, rfl, J, nb, (up.trans up3).trans up4, .inr (.inr (by rw [hs]; exact hh4)), na, os, ag, w⟩
        first
          | exact wpAny_bind (wpAny_pure (wpAny_bind fin))
          | exact wpAny_bind fin
      | @cons x n i c ts b₀ suite np pos' hds2 l2 hc hi hln hsu r ih =>
        intro w
        obtain ⟨b, hb1, hyes, hno⟩ := w
        have hloc : L2.Loc X.env.scope n := .inl hln
        refine wpAny_handleBy_cons (codeAny_handlers_test ?_) (by intro q; cases q)
        have LT : PySem.W.Looks (model X.prog X.w) h3 (typeOf (.ref a)) cls := fun A Q E s k q => wpAny_typeOf_ref (k _ _ he3) (by rw [hz3.1]; exact q)
        have LM := PySem.W.exm_one (M := model X.prog X.w) (J3.kIn) LT hb1
        have test : ∀ {Q : Value → Shared → Prop} {E : Value → Shared → Prop}, Q c { s' with heap := h3 } → wpAny (model X.prog X.w) (X.A.mark (some (.ref a))) (eval (.Name x np) X.env) Q E { s' with heap := h3 } := fun {Q E} q => by
          obtain ⟨hg, hdbg, hm | ⟨hm, hv, hnn⟩⟩ := hc
          · exact ld_glob (X := X.suite a ((a, oe3) :: (X.pn ++ pins))) S3 hg hm q hdbg
          · exact ld_blt (X := X.suite a ((a, oe3) :: (X.pn ++ pins))) S3 hg hm hv q hnn hdbg
        refine test (LM.here ?_)
        cases b with
        | true =>
          refine codeAny_handlers_suite_as ?_
          refine HandSPX.lands_againZ fl3 fun h4 fl4 up4 => ?_
          have J4 : Inv X pins σ' H' { s' with heap := h4 } := J.landed nb fl4.1 ((up.trans up3).trans up4) os ag
          obtain ⟨oe4, vs4, he4, hz4, hd4⟩ := fl4.there
          have S4 := J4.suite he4 hd4 na nL nF
          refine store_ok (X := X.suite a ((a, oe4) :: (X.pn ++ pins))) (v := .ref a) S4 hN hi hloc rfl (fun s5 S5 => ?_) (.inr hln)
          refine wpAny_mono ((hsu a oe4 cls d (X.pn ++ pins) hz4 ⟨_, hd4⟩).run [] s5 _ H' _ S5 (hyes rfl a na)) (fun f s6 hsp => ?_) (fun _ _ z => False.elim z)
          have end_ : ∀ {σ6 : L2.St} {H6 : Hp} {Q : Shared → Prop}, Inv (X.suite a ((a, oe4) :: (X.pn ++ pins))) [] σ6 H6 s6 → (∀ s7, Inv X pins (σ6.set i none) H6 s7 → Q s7) →
              wpAny (model X.prog X.w) X.A (do bindName X.env n .none; unbindBehindTheSuite X.env n pos') (fun _ s7 => Q s7) X.xe s6 := fun {σ6 H6 Q} S6 hq => gone_ok (S6.unsuite ok) hN hi hln hq
          cases f with
          | next =>
            obtain ⟨σ6, H6, S6, q6⟩ := hsp
            exact end_ S6 fun s7 J7 => ⟨_, _, J7, q6⟩
          | brk =>
            obtain ⟨σ6, H6, S6, q6⟩ := hsp
            exact end_ S6 fun s7 J7 => ⟨_, _, J7, q6⟩
          | cont =>
            obtain ⟨σ6, H6, S6, q6⟩ := hsp
            exact end_ S6 fun s7 J7 => ⟨_, _, J7, q6⟩
          | ret u =>
            obtain ⟨v6, σ6, H6, S6, r6, q6⟩ := hsp
            exact end_ S6 fun s7 J7 => ⟨_, _, _, J7, r6, q6⟩
        | false =>
          show wpAny _ X.A (handleBy (.ref a) X.env hds2) _ _ _
          exact ih (hno rfl)
    exact go hh w
  · cases f with
    | next =>
      obtain ⟨σ', H', J', q⟩ := hsp
      exact wpAny_execs_nil ⟨σ', H', J'.ofTry ok, q⟩
    | brk =>
      obtain ⟨σ', H', J', q⟩ := hsp
      exact ⟨σ', H', J'.ofTry ok, q⟩
    | cont =>
      obtain ⟨σ', H', J', q⟩ := hsp
      exact ⟨σ', H', J'.ofTry ok, q⟩
    | ret u =>
      obtain ⟨v, σ', H', J', r, q⟩ := hsp
      exact ⟨v, σ', H', J'.ofTry ok, r, q⟩
end

/-! ### by data -/
section
variable {G : Gd} {X : Cx} {Γ : DC G X} {pos : Pos}
/-- a clause: does it take the class? the slot of its name; its suite -/
structure Hd where
  tst : String → Option Bool
  i : Nat
  s : SM
mutual
def NoX : D → Prop
  | .tup ds => NoXL ds
  | .lst ds => NoXL ds
  | .kt ds => NoXL ds
  | .exn _ _ _ _ => False
  | _ => True
def NoXL : List D → Prop
  | [] => True
  | d :: ds => NoX d ∧ NoXL ds
end
open Classical in
noncomputable def handle : List Hd → D → DSt → Mem → RS
  | [], x, τ, M => .exc x τ M
  | h :: r, x, τ, M => match x with
    | .exn c _ _ _ => match h.tst c with
      | some true => match h.s (τ.set h.i (some x)) M with
        | .rt d M' => if NoX d ∧ M' = M then .rt d M' else .bad
        | _ => .bad
      | some false => handle r x τ M
      | none => .bad
    | _ => .bad
noncomputable def sTry (b : SM) (hs : List Hd) : SM := fun τ M => match b τ M with
  | .exc x τ' M' => handle hs x τ' M'
  | r => r
/-- the same world, another exception handled -/
abbrev Wd.hnd (W : Wd) (ea : Option (Addr × String × Option Addr)) : Wd := { W with ea := ea }
theorem own_hnd {W : Wd} {ea : Option (Addr × String × Option Addr)} {a : Addr} : (W.hnd ea).own a ↔ W.own a := Iff.rfl
mutual
theorem Rep.hnd {W : Wd} {ea : Option (Addr × String × Option Addr)} : ∀ {d : D} {v : V}, Rep G W d v → NoX d ∨ W.ea = none → Rep G (W.hnd ea) d v
  | .non, _, h, _ => h
  | .bl _, _, h, _ => h
  | .int _, _, h, _ => h
  | .str _, _, h, _ => h
  | .ty _, _, h, _ => h
  | .gr _, _, h, _ => h
  | .loc _, _, h, _ => h
  | .scr _, _, h, _ => h
  | .dic, _, h, _ => h
  | .tup ds, _, h, q => by
    obtain ⟨a, xs, e, h1, n1, r⟩ := h
    exact ⟨a, xs, e, h1, n1, RepL.hnd r q⟩
  | .lst ds, _, h, q => by
    obtain ⟨a, xs, e, h1, n1, r⟩ := h
    exact ⟨a, xs, e, h1, n1, RepL.hnd r q⟩
  | .kt ds, _, h, q => by
    obtain ⟨a, xs, e, h1, r⟩ := h
    exact ⟨a, xs, e, h1, RepL.hnd r q⟩
  | .exn _ _ _ _, _, h, q => by
    rcases q with q | q
    · exact False.elim q
    · obtain ⟨a, dd, h1, _⟩ := h
      rw [q] at h1
      cases h1
theorem RepL.hnd {W : Wd} {ea : Option (Addr × String × Option Addr)} : ∀ {ds : List D} {vs : List V}, RepL G W ds vs → NoXL ds ∨ W.ea = none → RepL G (W.hnd ea) ds vs
  | [], _, h, _ => h
  | _ :: _, _, h, q => by
    obtain ⟨v, r, e, h1, h2⟩ := h
    exact ⟨v, r, e, Rep.hnd h1 (q.imp (fun z => z.1) id), RepL.hnd h2 (q.imp (fun z => z.2) id)⟩
end
theorem ok_hnd {W : Wd} {ea : Option (Addr × String × Option Addr)} (k : WOk G W) (he : W.ea = none) : WOk G (W.hnd ea) :=
  ⟨k.len, k.inj, fun l ds h => let ⟨a, xs, h1, h2, h3⟩ := k.there l ds h; ⟨a, xs, h1, h2, RepL.hnd h3 (.inr he)⟩, k.hidT, k.hidP, k.hidN⟩
mutual
theorem Clo.nox {n : Nat} : ∀ {d : D}, Clo n d → NoX d
  | .non, _ => trivial
  | .bl _, _ => trivial
  | .int _, _ => trivial
  | .str _, _ => trivial
  | .ty _, _ => trivial
  | .gr _, _ => trivial
  | .loc _, _ => trivial
  | .scr _, _ => trivial
  | .dic, _ => trivial
  | .tup _, h => CloL.nox (show CloL n _ from h)
  | .lst _, h => CloL.nox (show CloL n _ from h)
  | .kt _, h => CloL.nox (show CloL n _ from h)
  | .exn _ _ _ _, h => False.elim h
theorem CloL.nox {n : Nat} : ∀ {ds : List D}, CloL n ds → NoXL ds
  | [], _ => trivial
  | _ :: _, h => ⟨Clo.nox h.1, CloL.nox h.2⟩
end
/-- back from a suite -/
theorem ok_unhnd {W W' : Wd} (k : WOk G W) (he : W.ea = none) (k' : WOk G W') (hm : W'.M = W.M) : WOk G (W'.hnd none) := by
  refine ⟨k'.len, k'.inj, fun l ds h => ?_, k'.hidT, k'.hidP, k'.hidN⟩
  obtain ⟨a, xs, h1, h2, h3⟩ := k'.there l ds h
  have h : W'.M[l]? = some (some ds) := h
  rw [hm] at h
  obtain ⟨_, ys, _, _, r⟩ := k.there l ds h
  exact ⟨a, xs, h1, h2, RepL.hnd h3 (.inl (CloL.nox (RepL.clo he r)))⟩
theorem NoX.of_rep {W : Wd} (he : W.ea = none) {d : D} {v : V} (r : Rep G W d v) : NoX d := Clo.nox (Rep.clo he r)

/-! ### the rule -/
abbrev DC.tr (Γ : DC G X) (W : WX) (pn : List (Addr × Obj)) (xe : Value → Shared → Prop) (tk : Takes (X.tr pn xe) W) : DC G (X.tr pn xe) := ⟨W, Γ.ea, Γ.hK, tk⟩
abbrev DC.suite (Γ : DC G X) (a : Addr) (cn : String) (dd : Option Addr) (pn : List (Addr × Obj)) : DC G (X.suite a pn) := ⟨fun _ _ _ _ => False, some (a, cn, dd), Γ.hK, takes0⟩
/-- the clauses of a try -/
inductive HdsD (Γ : DC G X) : List ExceptHandler → List Hd → Prop
  | nil : HdsD Γ [] []
  | cons {x n : Str} {i : Nat} {c : Value} {tst : String → Option Bool} {s : SM} {b₀ : Stmt} {suite : List Stmt} {np pos' : Pos} {hds : List ExceptHandler} {l : List Hd} (hc : Names X x c) (hi : X.N[i]? = some n) (hln : X.env.kindOf n = some .local)
      (ht : ∀ cn b, tst cn = some b → PySem.W.exmOne X.K (.ref (G.ca cn)) c = some b)
      (hsu : ∀ (a : Addr) (oe : Obj) (pn : List (Addr × Obj)) (cn : String) (dd : Option Addr), tst cn = some true → Zc (.ref (G.ca cn)) dd oe → (∃ vs, oe.data = .fields vs) → DSs (Γ.suite a cn dd ((a, oe) :: pn)) (b₀ :: suite) s) (r : HdsD Γ hds l) :
      HdsD Γ (.ExceptHandler (some (.Name x np)) (some n) (b₀ :: suite) pos' :: hds) ({ tst := tst, i := i, s := s } :: l)
theorem hds_of {hds : List ExceptHandler} {l : List Hd} (hh : HdsD Γ hds l) : ∃ lV, HdsA X hds lV ∧ ∀ (Dn : Ends) (x : D) (τ : DSt) (W : Wd) (cls : Value) (dd : Option Addr) (σ : L2.St), WOk G W → W.ea = none → RelS G W τ σ → RepX G W x cls dd → pS G Γ.W W (handle l x τ W.M) Dn → wManyA X.K Γ.W Dn lV cls dd σ W.H := by
  induction hh with
  | nil => exact ⟨[], .nil, fun Dn x τ W cls dd σ k he rs rx h => h cls dd σ W rfl k (Ext.refl W) rs rx⟩
  | @cons x n i c tst s b₀ suite np pos' hds l hc hi hln ht hsu r ih =>
    obtain ⟨lV, h1, h2⟩ := ih
    refine ⟨(c, i, fun a cls d Dn σ H => ∃ cn, tst cn = some true ∧ cls = .ref (G.ca cn) ∧ tS G (fun _ _ _ _ => False) (some (a, cn, d)) s Dn σ H) :: lV, .cons hc hi hln (fun a oe cls d pn hz hv => ⟨fun pins s' σ H Dn I q => ?_⟩) h1, fun Dn x τ W cls dd σ k he rs rx h => ?_⟩
    · obtain ⟨cn, e1, rfl, q⟩ := q
      exact (hsu a oe pn cn d e1 hz hv).run pins s' σ H Dn I q
    · cases x with
      | exn cn has f d =>
        have rx1 : cls = .ref (G.ca cn) := rx.1
        subst rx1
        unfold handle at h
        cases et : tst cn with
        | none => simp only [et] at h; exact h.elim
        | some b =>
          cases b with
          | false =>
            simp only [et] at h
            exact ⟨false, ht cn false et, (fun q => nomatch q), fun _ => h2 Dn (.exn cn has f d) τ W _ dd σ k he rs rx h⟩
          | true =>
            simp only [et] at h
            refine ⟨true, ht cn true et, fun _ a na => ⟨cn, et, rfl, τ.set i (some (.exn cn has f d)), W.hnd (some (a, cn, dd)), rfl, rfl, ok_hnd k he, ?_, ?_⟩, (fun q => nomatch q)⟩
            · have rs' : RelS G (W.hnd (some (a, cn, dd))) τ σ := ⟨rs.1, fun j e q => let ⟨v, q1, q2⟩ := rs.2 j e q; ⟨v, q1, Rep.hnd q2 (.inr he)⟩⟩
              refine rs'.set i ⟨a, dd, rfl, rfl, ?_⟩
              have r2 := rx.2
              cases has with
              | false => exact .inl ⟨rfl, r2⟩
              | true =>
                obtain ⟨b, u, e1, e2, e3, e4⟩ := r2
                exact .inr ⟨rfl, b, u, e1, e2, e3, Rep.hnd e4 (.inr he)⟩
            · show pS G _ _ (s (τ.set i (some (.exn cn has f d))) W.M) _
              cases es : s (τ.set i (some (.exn cn has f d))) W.M with
              | rt d2 M2 =>
                rw [es] at h
                open Classical in
                have h : pS G Γ.W W (if NoX d2 ∧ M2 = W.M then .rt d2 M2 else .bad) Dn := h
                split at h
                · rename_i hn
                  obtain ⟨n1, rfl⟩ := hn
                  intro v W2 m2 k2 e2 r2
                  refine h v (W2.hnd none) m2 (ok_unhnd k he k2 m2) ⟨⟨e2.pla, e2.H, he.symm⟩, e2.hid, e2.hidH⟩ (Rep.hnd r2 (.inl n1))
                · exact h.elim
              | nx _ _ => rw [es] at h; exact h.elim
              | bk _ _ => rw [es] at h; exact h.elim
              | ct _ _ => rw [es] at h; exact h.elim
              | exc _ _ _ => rw [es] at h; exact h.elim
              | bad => rw [es] at h; exact h.elim
      | _ => exact rx.elim
theorem ds_try {body : List Stmt} {h₀ : ExceptHandler} {hds : List ExceptHandler} {l : List Hd} {b : SM} (hN : X.N.Nodup)
    (hb : ∀ (W : WX) (pn : List (Addr × Obj)) (xe : Value → Shared → Prop) (tk : Takes (X.tr pn xe) W), PassesOwn (model X.prog X.w) X.A X.env xe → DSs (Γ.tr W pn xe tk) body b)
    (hh : HdsD Γ (h₀ :: hds) l) (he : Γ.ea = none := by rfl) (hs : X.stack = X.env :: X.outer := by rfl) (hf : X.env.frame = some X.env.locals := by rfl) : DS Γ (.Try body (h₀ :: hds) [] [] pos) (sTry b l) := by
  obtain ⟨lV, h1, h2⟩ := hds_of hh
  refine ps_imp (ps_try_manyA (tb := fun W => tS G W Γ.ea b) hs hf hN Γ.tk (fun W pn xe tk hp => hb W pn xe tk hp) h1) fun Dn σ H q => ?_
  obtain ⟨τ, W, rfl, hea, ok, rs, h⟩ := q
  refine ⟨τ, W, rfl, hea, ok, rs, ?_⟩
  unfold sTry at h
  cases e : b τ W.M with
  | nx τ' M' => rw [e] at h; exact h
  | bk τ' M' => rw [e] at h; exact h
  | ct τ' M' => rw [e] at h; exact h
  | rt d M' => rw [e] at h; exact h
  | bad => rw [e] at h; exact h
  | exc x τ' M' =>
    rw [e] at h
    intro cls dd σ' W' m' k' e' s' r'
    subst m'
    exact h2 Dn x τ' W' cls dd σ' k' (e'.ea.trans (hea.trans he)) s' r' (pS.ext e' h)

/-! ### names of the text's own things; isinstance of what is handled -/
theorem de_glob {x : Str} {p : Pos} {u : Value} {v : V} {d : D} (hm : X.mg x = some u) (r : RelV v u) (rd : ∀ W : Wd, Rep G W d v) (hg : Gl X x := by rfl) (hdb : (x == ("__debug__" : Str)) = false := by decide) : DE Γ (.Name x p) (eC d) := ⟨fun pins s σ H Q I q => by
  obtain ⟨τ, W, rfl, he, ok, rs, h⟩ := q
  exact ld_glob I hg hm ⟨v, W.H, I, r, h v W rfl ok (Ext.refl W) (rd W)⟩ hdb⟩
theorem de_cls {x : Str} {p : Pos} {C : Addr} (hm : X.mg x = some (.ref C)) (hg : Gl X x := by rfl) (hdb : (x == ("__debug__" : Str)) = false := by decide) : DE Γ (.Name x p) (eC (.gr C)) := de_glob (v := .ref C) hm rfl (fun _ => rfl) hg hdb
theorem de_ty {x : Str} {p : Pos} {n : String} (hm : X.mg x = none) (hv : bootBuiltins x = some (.type n)) (hg : Gl X x := by rfl) (hn : x ≠ "__name__" := by decide) (hdb : (x == ("__debug__" : Str)) = false := by decide) : DE Γ (.Name x p) (eC (.ty n)) := ⟨fun pins s σ H Q I q => by
  obtain ⟨τ, W, rfl, he, ok, rs, h⟩ := q
  exact ld_blt I hg hm hv ⟨.ty n, W.H, I, rfl, h (.ty n) W rfl ok (Ext.refl W) rfl⟩ hn hdb⟩
theorem pe_clsN {X : Cx} {x : Str} {p : Pos} {C : Addr} (hm : X.mg x = some (.ref C)) (hg : Gl X x := by rfl) (hdb : (x == ("__debug__" : Str)) = false := by decide) : PE X (.Name x p) (tC (.ref C)) := ⟨fun pins s σ H Q I q => ld_glob I hg hm ⟨.ref C, H, I, rfl, q⟩ hdb⟩
@[simp] def eIsE (tst : String → Option Bool) (m : EM) : EM := fun τ M => (m τ M).bind fun x M1 => match x with
  | .exn c false _ _ => match tst c with
    | some b => .ok (.bl b) M1
    | none => .bad
  | _ => .bad
theorem de_isE {a : Addr} {cn : String} {dd : Option Addr} {oe : Obj} {pn : List (Addr × Obj)} {ea eb : Expr} {ma : EM} {C2 : Addr} {tst : String → Option Bool} {p : Pos} (C : ExcC X.K (G.ca cn)) (hz : Zc (.ref (G.ca cn)) dd oe) (hf : ∃ vs, oe.data = .fields vs)
    (ht : ∀ b, tst cn = some b → PySem.W.kitOne X.K (.ref (G.ca cn)) (.ref C2) = some b) (hm : X.mg "isinstance" = none) (ha : DE (Γ.suite a cn dd ((a, oe) :: pn)) ea ma) (hb : PE (X.suite a ((a, oe) :: pn)) eb (tC (.ref C2))) (hg : Gl (X.suite a ((a, oe) :: pn)) "isinstance" := by rfl)
    (he : starEach (ea :: [eb]) (X.suite a ((a, oe) :: pn)).env = (false, eval ea (X.suite a ((a, oe) :: pn)).env) :: starEach [eb] (X.suite a ((a, oe) :: pn)).env := by rfl) (hs2 : starEach (eb :: []) (X.suite a ((a, oe) :: pn)).env = (false, eval eb (X.suite a ((a, oe) :: pn)).env) :: starEach [] (X.suite a ((a, oe) :: pn)).env := by rfl) (hpl : (backTo pos (starEach [eb] (X.suite a ((a, oe) :: pn)).env)).any (·.1) = false := by rfl) :
    DE (Γ.suite a cn dd ((a, oe) :: pn)) (.Call (.Name "isinstance" p) [ea, eb] [] pos) (eIsE tst ma) := by
  have cr : CallR (X.suite a ((a, oe) :: pn)) (.builtin "isinstance") (fun xs H Q => dd = none ∧ ∃ b, tst cn = some b ∧ xs = [.ref a, .ref C2] ∧ Q (.bl b) H) := by
    intro pins s σ H xs us Q I r h
    obtain ⟨rfl, b, e, rfl, q⟩ := h
    exact call_isE C hz hf pins s σ H _ us Q I r ⟨.ref C2, .ref C2, b, rfl, fun u h => h, ht b e, q⟩
  refine pe_imp (pe_callB cr hg hm (by rfl) (pa_cons ha (pa_cons hb pa_nil hs2) he) (by decide) (by decide) he hpl) fun σ H Q q => ?_
  obtain ⟨τ, W, rfl, hea, ok, rs, h⟩ := q
  refine step hea ok rs h fun dx x W1 k1 e1 r1 h1 => ?_
  cases dx with
  | exn c has f d =>
    cases has with
    | true => exact h1.elim
    | false =>
      obtain ⟨a', dd', e2, rfl, e3⟩ := r1
      have e4 := (e2.symm.trans (e1.ea.trans hea))
      cases e4
      rcases e3 with ⟨_, e3⟩ | ⟨z, _⟩
      · have h1 : pR G noW (Rep G) W1 σ (match tst cn with
          | some b => .ok (.bl b) W1.M
          | none => .bad) Q := h1
        cases e : tst cn with
        | none => rw [e] at h1; exact h1.elim
        | some b =>
          rw [e] at h1
          exact ⟨e3, b, rfl, rfl, h1 (.bl b) W1 rfl k1 (Ext.refl W1) rfl⟩
      · cases z
  | _ => exact h1.elim
end
end DM

/-! DM: parallel stores, enumerate, zip, slices, methods of lists. -/
namespace DM
open PySem PySem.Spec PyProof.Rows L2
section
variable {G : Gd} {X : Cx} {Γ : DC G X} {pos : Pos}
/-! ### a, b = x, y -/
@[simp] def sPar (i j : Nat) (m : AM) : SM := fun τ M => andS (m τ M) τ fun ds M1 => match ds with
  | [a, b] => .nx ((τ.set i (some a)).set j (some b)) M1
  | _ => .bad
@[simp] def sPar3 (i j l : Nat) (m : AM) : SM := fun τ M => andS (m τ M) τ fun ds M1 => match ds with
  | [a, b, c] => .nx (((τ.set i (some a)).set j (some b)).set l (some c)) M1
  | _ => .bad
theorem ds_par {i j : Nat} {x y : Str} {a b : Expr} {m : AM} {px py pt : Pos} {kt k2 pt2} (hN : X.N.Nodup) (ha : DA Γ [a, b] m) (hc : X.calm = true := by rfl) (hi : X.N[i]? = some x := by rfl) (hj : X.N[j]? = some y := by rfl) (hij : i ≠ j := by decide)
    (hx : X.env.scope.names.lookup x = some .local := by rfl) (hy : X.env.scope.names.lookup y = some .local := by rfl)
    (hw : swappedStores [.Tuple [.Name x px, .Name y py] kt pt] (.Tuple [a, b] k2 pt2) X.env = pure (some [x, y]) := by rfl)
    (hs : swapsWithSole [.Tuple [.Name x px, .Name y py] kt pt] (.Tuple [a, b] k2 pt2) pos.line X.env = pure false := by rfl) :
    DS Γ (.Assign [.Tuple [.Name x px, .Name y py] kt pt] (.Tuple [a, b] k2 pt2) pos) (sPar i j m) := ps_imp (ps_par hc hN hi hj hij hx hy ha hw hs) fun Dn σ H q => by
  obtain ⟨τ, W, rfl, he, ok, rs, h⟩ := q
  show tA Γ m σ W.H _
  refine stepS he ok rs h fun ds vs W1 k1 e1 r1 h1 => ?_
  split at h1
  · rename_i d e
    obtain ⟨v, u, rfl, r2, r3⟩ := RepL.two r1
    exact ⟨v, u, rfl, h1 _ W1 rfl k1 (Ext.refl W1) (((rs.mono e1).set i r2).set j r3)⟩
  · exact h1.elim
theorem RepL.three {W : Wd} {d e f : D} {xs : List V} (r : RepL G W [d, e, f] xs) : ∃ v u w, xs = [v, u, w] ∧ Rep G W d v ∧ Rep G W e u ∧ Rep G W f w := by
  obtain ⟨v, r', rfl, h1, h2⟩ := r
  obtain ⟨u, w, rfl, h3, h4⟩ := RepL.two h2
  exact ⟨v, u, w, rfl, h1, h3, h4⟩
theorem ds_par3 {i j l : Nat} {x y z : Str} {a b c : Expr} {m : AM} {px py pz pt : Pos} {kt k2 pt2} (hN : X.N.Nodup) (ha : DA Γ [a, b, c] m) (hc : X.calm = true := by rfl) (hi : X.N[i]? = some x := by rfl) (hj : X.N[j]? = some y := by rfl) (hl : X.N[l]? = some z := by rfl) (hij : i ≠ j := by decide) (hil : i ≠ l := by decide) (hjl : j ≠ l := by decide)
    (hx : X.env.scope.names.lookup x = some .local := by rfl) (hy : X.env.scope.names.lookup y = some .local := by rfl) (hz : X.env.scope.names.lookup z = some .local := by rfl)
    (hw : swappedStores [.Tuple [.Name x px, .Name y py, .Name z pz] kt pt] (.Tuple [a, b, c] k2 pt2) X.env = pure (some [x, y, z]) := by rfl)
    (hs : swapsWithSole [.Tuple [.Name x px, .Name y py, .Name z pz] kt pt] (.Tuple [a, b, c] k2 pt2) pos.line X.env = pure false := by rfl) :
    DS Γ (.Assign [.Tuple [.Name x px, .Name y py, .Name z pz] kt pt] (.Tuple [a, b, c] k2 pt2) pos) (sPar3 i j l m) := ps_imp (ps_par3 hc hN hi hj hl hij hil hjl hx hy hz ha hw hs) fun Dn σ H q => by
  obtain ⟨τ, W, rfl, he, ok, rs, h⟩ := q
  show tA Γ m σ W.H _
  refine stepS he ok rs h fun ds vs W1 k1 e1 r1 h1 => ?_
  split at h1
  · obtain ⟨v, u, w, rfl, r2, r3, r4⟩ := RepL.three r1
    exact ⟨v, u, w, rfl, h1 _ W1 rfl k1 (Ext.refl W1) ((((rs.mono e1).set i r2).set j r3).set l r4)⟩
  · exact h1.elim

/-! ### enumerate, zip -/
def enumD : Nat → List D → List D
  | _, [] => []
  | i, d :: ds => .tup [.int (i : Int), d] :: enumD (i + 1) ds
theorem enumD_get : ∀ {ds : List D} {n i : Nat} {d : D}, (enumD n ds)[i]? = some d → ∃ e, ds[i]? = some e ∧ d = .tup [.int ((n + i : Nat) : Int), e]
  | [], n, i, d, h => by simp [enumD] at h
  | e :: ds, n, 0, d, h => by
    simp [enumD] at h
    exact ⟨e, rfl, h.symm⟩
  | e :: ds, n, i + 1, d, h => by
    simp [enumD] at h
    obtain ⟨e', h1, h2⟩ := enumD_get h
    refine ⟨e', by simpa using h1, ?_⟩
    rw [h2, show n + 1 + i = n + (i + 1) by omega]
theorem enumD_len : ∀ (ds : List D) (n : Nat), (enumD n ds).length = ds.length
  | [], _ => rfl
  | d :: ds, n => by
    show (enumD (n + 1) ds).length + 1 = _
    rw [enumD_len ds]
    rfl
theorem ite_ok {K : PySem.W.Frag} {W0 : Wd} {a : Addr} {it : ItD} (hK : K = G.K) (f : ∀ W, WOk G W → Ext0 W0 W → Chk it.src W.M → ∃ xs, SqL G.K W.H a xs ∧ RepL G W it.xs xs) : ItOk G W0 (Ite K a) { xs := enumD 0 it.xs, src := it.src } := fun W k e c => by
  subst hK
  obtain ⟨xs, h1, h2⟩ := f W k e c
  refine ⟨fun i d hd => ?_, fun i hi => ⟨xs, h1, ?_⟩⟩
  · obtain ⟨e', g1, rfl⟩ := enumD_get hd
    obtain ⟨v, e1, e2⟩ := h2.get g1
    refine ⟨⟨xs, v, h1, e1⟩, fun x H' y => ?_⟩
    obtain ⟨T, x', rfl, hT, rfl, y⟩ := y
    have := (y xs h1).symm.trans e1
    cases this
    refine ⟨W.new T (.tup [.int (i : Nat), v]), rfl, rfl, ok_new k hT, ext_new k hT, T, _, rfl, upd_same, own_new k hT, ?_⟩
    rw [Nat.zero_add]
    exact ⟨_, _, rfl, rfl, _, _, rfl, e2.mono (ext_new k hT), rfl⟩
  · rw [← h2.length]
    have hi : (enumD 0 it.xs).length ≤ i := hi
    rw [enumD_len] at hi
    exact hi
@[simp] def iEnumD (m : AM) : IM := fun τ M => (m τ M).bind fun ds M1 => match ds with
  | [d] => match lstOf d M1 with
    | some it => .ok { xs := enumD 0 it.xs, src := it.src } M1
    | none => .bad
  | _ => .bad
theorem di_enum {e : Expr} {m : AM} {p pos tpos : Pos} {elts : List Expr} {kk : Nat} (hm : X.mg "enumerate" = none) (ha : DA Γ [e] m) (hg : Gl X "enumerate" := by rfl) (hs : starEach [e] X.env = [(false, eval e X.env)] := by rfl) :
    DI Γ (.Tuple elts kk tpos) (.Call (.Name "enumerate" p) [e] [] pos) (iEnumD m) := pi_imp (pi_enum hg hm ha hs) fun σ H Q q => by
  obtain ⟨τ, W, rfl, he, ok, rs, h⟩ := q
  refine step he ok rs h fun ds vs W1 k1 e1 r1 h1 => ?_
  split at h1
  · rename_i d
    obtain ⟨v, rfl, r2⟩ := RepL.one r1
    cases el : lstOf d W1.M with
    | none => rw [el] at h1; exact h1.elim
    | some it =>
      rw [el] at h1
      obtain ⟨a, rfl, f⟩ := lst_at r2 el
      obtain ⟨a', xs, e', hq, _⟩ := lst_now k1 r2 el
      cases e'
      exact ⟨a, xs, rfl, by rw [Γ.hK]; exact hq, h1 (Ite X.K a) W1 rfl k1 (Ext.refl W1) (ite_ok Γ.hK f)⟩
  · exact h1.elim
def zipD (ds es : List D) : List D := List.zipWith (fun a b => .tup [a, b]) ds es
theorem zipD_get {ds es : List D} {i : Nat} {d : D} (h : (zipD ds es)[i]? = some d) : ∃ a b, ds[i]? = some a ∧ es[i]? = some b ∧ d = .tup [a, b] := by
  unfold zipD at h
  rw [List.getElem?_zipWith] at h
  split at h
  · rename_i a b h1 h2
    cases h
    exact ⟨a, b, h1, h2, rfl⟩
  · cases h
theorem zipD_stop {ds es : List D} {i : Nat} (h : (zipD ds es).length ≤ i) : ds.length ≤ i ∨ es.length ≤ i := by
  unfold zipD at h
  rw [List.length_zipWith] at h
  omega
theorem itz_ok {K : PySem.W.Frag} {W0 : Wd} {a b : Addr} {it jt : ItD} (hK : K = G.K) (f : ∀ W, WOk G W → Ext0 W0 W → Chk it.src W.M → ∃ xs, SqL G.K W.H a xs ∧ RepL G W it.xs xs)
    (g : ∀ W, WOk G W → Ext0 W0 W → Chk jt.src W.M → ∃ xs, SqL G.K W.H b xs ∧ RepL G W jt.xs xs) : ItOk G W0 (Itz K a b) { xs := zipD it.xs jt.xs, src := it.src ++ jt.src } := fun W k e c => by
  subst hK
  obtain ⟨xs, h1, h2⟩ := f W k e (fun p hp => c p (List.mem_append_left _ hp))
  obtain ⟨ys, g1, g2⟩ := g W k e (fun p hp => c p (List.mem_append_right _ hp))
  refine ⟨fun i d hd => ?_, fun i hi => ⟨xs, ys, h1, g1, ?_⟩⟩
  · obtain ⟨x1, x2, q1, q2, rfl⟩ := zipD_get hd
    obtain ⟨v, e1, e2⟩ := h2.get q1
    obtain ⟨u, e3, e4⟩ := g2.get q2
    refine ⟨⟨xs, ys, v, u, h1, g1, e1, e3⟩, fun x H' y => ?_⟩
    obtain ⟨T, x', y', rfl, hT, rfl, z1, z2⟩ := y
    cases (z1 xs h1).symm.trans e1
    cases (z2 ys g1).symm.trans e3
    exact ⟨W.new T (.tup [v, u]), rfl, rfl, ok_new k hT, ext_new k hT, T, _, rfl, upd_same, own_new k hT, _, _, rfl, e2.mono (ext_new k hT), _, _, rfl, e4.mono (ext_new k hT), rfl⟩
  · rw [← h2.length, ← g2.length]
    exact zipD_stop hi
theorem itzT_ok {K : PySem.W.Frag} {W0 : Wd} {a b : Addr} {ds es : List D} (hK : K = G.K) (f : ∀ W, Ext0 W0 W → ∃ xs, SqT G.K W.H a xs ∧ RepL G W ds xs) (g : ∀ W, Ext0 W0 W → ∃ xs, SqT G.K W.H b xs ∧ RepL G W es xs) : ItOk G W0 (RZ.ItzT K a b) { xs := zipD ds es } := fun W k e c => by
  subst hK
  obtain ⟨xs, h1, h2⟩ := f W e
  obtain ⟨ys, g1, g2⟩ := g W e
  refine ⟨fun i d hd => ?_, fun i hi => ⟨xs, ys, h1, g1, ?_⟩⟩
  · obtain ⟨x1, x2, q1, q2, rfl⟩ := zipD_get hd
    obtain ⟨v, e1, e2⟩ := h2.get q1
    obtain ⟨u, e3, e4⟩ := g2.get q2
    refine ⟨⟨xs, ys, v, u, h1, g1, e1, e3⟩, fun x H' y => ?_⟩
    obtain ⟨T, x', y', rfl, hT, rfl, z1, z2⟩ := y
    cases (z1 xs h1).symm.trans e1
    cases (z2 ys g1).symm.trans e3
    exact ⟨W.new T (.tup [v, u]), rfl, rfl, ok_new k hT, ext_new k hT, T, _, rfl, upd_same, own_new k hT, _, _, rfl, e2.mono (ext_new k hT), _, _, rfl, e4.mono (ext_new k hT), rfl⟩
  · rw [← h2.length, ← g2.length]
    exact zipD_stop hi
def zipI (x y : D) (M : Mem) : Option ItD := match tupOf x with
  | some ds => match tupOf y with
    | some es => some { xs := zipD ds es }
    | none => none
  | none => match lstOf x M with
    | some it => match lstOf y M with
      | some jt => some { xs := zipD it.xs jt.xs, src := it.src ++ jt.src }
      | none => none
    | none => none
@[simp] def iZipD (m : AM) : IM := fun τ M => (m τ M).bind fun ds M1 => match ds with
  | [x, y] => match zipI x y M1 with
    | some it => .ok it M1
    | none => .bad
  | _ => .bad
theorem di_zip {e e2 : Expr} {m : AM} {p pos tpos : Pos} {elts : List Expr} {kk : Nat} (hm : X.mg "zip" = none) (ha : DA Γ [e, e2] m) (hg : Gl X "zip" := by rfl)
    (hs : starEach [e, e2] X.env = (false, eval e X.env) :: starEach [e2] X.env := by rfl) (hpl : (backTo pos (starEach [e2] X.env)).any (·.1) = false := by rfl) :
    DI Γ (.Tuple elts kk tpos) (.Call (.Name "zip" p) [e, e2] [] pos) (iZipD m) := pi_imp (RZ.pi_zipA hg hm ha hs hpl) fun σ H Q q => by
  obtain ⟨τ, W, rfl, he, ok, rs, h⟩ := q
  refine step he ok rs h fun ds vs W1 k1 e1 r1 h1 => ?_
  split at h1
  · rename_i x y
    obtain ⟨v, u, rfl, r2, r3⟩ := RepL.two r1
    cases ez : zipI x y W1.M with
    | none => rw [ez] at h1; exact h1.elim
    | some it =>
      rw [ez] at h1
      unfold zipI at ez
      split at ez
      · rename_i ds et
        split at ez
        · rename_i es et2
          cases ez
          obtain ⟨a, rfl, f⟩ := tup_at r2 et
          obtain ⟨b, rfl, g⟩ := tup_at r3 et2
          obtain ⟨xs, f1, _⟩ := f W1 (Ext0.refl W1)
          obtain ⟨ys, g1, _⟩ := g W1 (Ext0.refl W1)
          rw [Γ.hK]
          exact ⟨a, b, xs, ys, rfl, .inr ⟨f1, g1, h1 (RZ.ItzT G.K a b) W1 rfl k1 (Ext.refl W1) (itzT_ok rfl f g)⟩⟩
        · cases ez
      · split at ez
        · rename_i it1 el1
          split at ez
          · rename_i it2 el2
            cases ez
            obtain ⟨a, rfl, f⟩ := lst_at r2 el1
            obtain ⟨b, rfl, g⟩ := lst_at r3 el2
            obtain ⟨_, xs, e', f1, _⟩ := lst_now k1 r2 el1
            cases e'
            obtain ⟨_, ys, e', g1, _⟩ := lst_now k1 r3 el2
            cases e'
            rw [Γ.hK]
            exact ⟨a, b, xs, ys, rfl, .inl ⟨f1, g1, h1 (Itz G.K a b) W1 rfl k1 (Ext.refl W1) (itz_ok rfl f g)⟩⟩
          · cases ez
        · cases ez
  · exact h1.elim

/-! ### slices -/
abbrev PM := DSt → Mem → R (Option Int)
abbrev DO (Γ : DC G X) (e : Option Expr) (m : PM) : Prop := PO X e (tR G Γ.W Γ.ea (fun _ a b => a = b) m)
@[simp] def pNo : PM := fun _ M => .ok none M
@[simp] def pSome (m : EM) : PM := fun τ M => (m τ M).bind fun x M1 => match x with
  | .int i => .ok (some i) M1
  | _ => .bad
theorem po_imp {X : Cx} {e : Option Expr} {t t' : TO} (h : PO X e t) (i : ∀ σ H Q, t' σ H Q → t σ H Q) : PO X e t' := ⟨fun pins s σ H Q I q => h.run pins s σ H Q I (i _ _ _ q)⟩
theorem do_none : DO Γ none pNo := po_imp po_none fun σ H Q q => by
  obtain ⟨τ, W, rfl, he, ok, rs, h⟩ := q
  exact h none W rfl ok (Ext.refl W) rfl
theorem do_some {e : Expr} {m : EM} (h : DE Γ e m) : DO Γ (some e) (pSome m) := po_imp (po_some h) fun σ H Q q => by
  obtain ⟨τ, W, rfl, he, ok, rs, h⟩ := q
  refine step he ok rs h fun d v W1 k1 e1 r1 h1 => ?_
  cases d with
  | int i => exact ⟨i, r1, h1 (some i) W1 rfl k1 (Ext.refl W1) rfl⟩
  | _ => exact h1.elim
def cutD (xs : List D) (lo hi : Option Int) : List D := (xs.drop (HT.sIx xs.length 0 lo)).take (HT.sIx xs.length xs.length hi - HT.sIx xs.length 0 lo)
theorem cut_rep {W : Wd} {ds : List D} {xs : List V} (r : RepL G W ds xs) (lo hi : Option Int) : RepL G W (cutD ds lo hi) (cutV xs lo hi) := by
  unfold cutD cutV
  rw [r.length]
  exact (r.drop _).take _
def oSl (lo hi : Option Int) : O1 := fun x M => match x with
  | .tup ds => some (.v (.tup (cutD ds lo hi)))
  | _ => (lstOf x M).map fun it => .l (cutD it.xs lo hi)
@[simp] def eSl (own : Bool) (m : EM) (lo hi : PM) : EM := fun τ M => (m τ M).bind fun x M1 => (lo τ M1).bind fun l M2 => (hi τ M2).bind fun u M3 => fin own (oSl l u x M3) M3
theorem de_slice (own : Bool) {e : Expr} {lo hi : Option Expr} {m : EM} {ml mh : PM} {p2 : Pos} (he : DE Γ e m) (hl : DO Γ lo ml) (hu : DO Γ hi mh) : DE Γ (.Subscript e (.Slice lo hi none p2) pos) (eSl own m ml mh) :=
  pe_imp (pe_slice (sl_list.or sl_tupA) he hl hu) fun σ H Q q => by
  obtain ⟨τ, W, rfl, hea, ok, rs, h⟩ := q
  refine step hea ok rs h fun d v W1 k1 e1 r1 h1 => ?_
  refine step (e1.ea.trans hea) k1 (rs.mono e1) h1 fun l l' W2 k2 e2 r2 h2 => ?_
  refine step (e2.ea.trans (e1.ea.trans hea)) k2 ((rs.mono e1).mono e2) h2 fun u u' W3 k3 e3 r3 h3 => ?_
  cases r2
  cases r3
  have rr := (r1.mono e2).mono e3
  have po := po_of k3 h3
  have lst : pO G W3 ((lstOf d W3.M).map fun it => .l (cutD it.xs l u)) Q → rSlL X.K v l u W3.H Q := fun po => by
    cases el : lstOf d W3.M with
    | none => rw [el] at po; exact po.elim
    | some it =>
      rw [el] at po
      obtain ⟨a, xs, rfl, hq, rl⟩ := lst_now k3 rr el
      exact ⟨a, xs, rfl, by rw [Γ.hK]; exact hq, fun p hp => po _ p (cut_rep rl l u) hp⟩
  cases d with
  | tup ds =>
    obtain ⟨a, xs, rfl, g1, n1, rl⟩ := rr
    have po : ∀ v W', W'.M = W3.M → WOk G W' → Ext W3 W' → Rep G W' (.tup (cutD ds l u)) v → Q v W'.H := po
    refine .inr ⟨a, xs, rfl, .of g1, fun hw => ?_, fun _ p hp => ?_⟩
    · refine po _ W3 rfl k3 (Ext.refl W3) ⟨a, xs, rfl, g1, n1, ?_⟩
      have c := cut_rep rl l u
      unfold cutV at c
      rw [hw.1, hw.2] at c
      simpa using c
    · exact po (.ref p) (W3.new p (.tup _)) rfl (ok_new k3 hp) (ext_new k3 hp) ⟨p, _, rfl, upd_same, own_new k3 hp, (cut_rep rl l u).mono (ext_new k3 hp)⟩
  | _ => exact .inl (lst po)
def oRev : O1 := fun x M => (lstOf x M).map fun it => .l it.xs.reverse
theorem de_rev (own : Bool) {e : Expr} {m : EM} {k : Nat} {p1 p2 p3 : Pos} (he : DE Γ e m) : DE Γ (.Subscript e (.Slice none none (some (.UnaryOp .USub (.Constant (.int 1) k p1) p2)) p3) pos) (eUn own oRev m) := pe_imp (pe_revL he) fun σ H Q q => by
  obtain ⟨τ, W, rfl, hea, ok, rs, h⟩ := q
  refine step hea ok rs h fun d v W1 k1 e1 r1 h1 => ?_
  have po := po_of k1 h1
  unfold oRev at po
  cases el : lstOf d W1.M with
  | none => rw [el] at po; exact po.elim
  | some it =>
    rw [el] at po
    obtain ⟨a, xs, rfl, hq, rl⟩ := lst_now k1 r1 el
    exact ⟨a, xs, rfl, by rw [Γ.hK]; exact hq, fun p hp => po _ p rl.reverse hp⟩

/-! ### methods of lists that change -/
abbrev OM := D → List D → Mem → Option ON
def RealM (G : Gd) (g : OM) (r : V → List V → Hp → VK → Prop) : Prop := ∀ (W : Wd) (d : D) (x : V) (ds : List D) (xs : List V) (Q : VK), WOk G W → Rep G W d x → RepL G W ds xs → pO G W (g d ds W.M) Q → r x xs W.H Q
@[simp] def eMt (g : OM) (m : EM) (r : AM) : EM := fun τ M => (m τ M).bind fun x M1 => match placeOf x with
  | some l => match memAt M1 l with
    | some _ => (r τ M1).bind fun ds M2 => fin false (g x ds M2) M2
    | none => .bad
  | none => .bad
theorem de_mt {g : OM} {id : String} {r : V → List V → Hp → VK → Prop} {o e : Expr} {es : List Expr} {m : EM} {mr : AM} {name : Str} {apos cpos : Pos} (hr : RealM G g r) (hm : MtR X id r) (slot : Slot "list" name id) (hty : typeOf (.builtin id) = pure (.type "method_descriptor")) (ho : DE Γ o m) (ha : DA Γ (e :: es) mr)
    (hbase : attributeBase o name X.env (eval o X.env) = eval o X.env := by rfl)
    (hfew : ((backTo cpos (starEach (e :: es) X.env)).all (fun x => !x.1) && (backToKw cpos (keywordEach [] X.env)).all (fun x => x.1.isSome)
      && decide ((e :: es).length + ([] : List Keyword).length + (if ([] : List Keyword).isEmpty then 0 else 1) < 30)) = true := by rfl)
    (hline : (apos.endLine == cpos.line) = true := by rfl) (hs : starEach (e :: es) X.env = (false, eval e X.env) :: starEach es X.env := by rfl) (hplain : (backTo cpos (starEach es X.env)).any (·.1) = false := by rfl) :
    DE Γ (.Call (.Attribute o name apos) (e :: es) [] cpos) (eMt g m mr) := pe_imp (pe_bm PySem.F.plainAttrs_list slot hty hm ho ha hbase hfew hline hs hplain) fun σ H Q q => by
  obtain ⟨τ, W, rfl, hea, ok, rs, h⟩ := q
  refine step hea ok rs h fun d v W1 k1 e1 r1 h1 => ?_
  split at h1
  · rename_i l el
    split at h1
    · rename_i ds em
      have := place_eq el
      subst this
      have r0 := r1
      obtain ⟨a, g1, rfl⟩ := r0
      obtain ⟨a', xs, g2, g3, _⟩ := k1.there l ds (mem_eq em)
      rw [g1] at g2
      cases g2
      refine ⟨.inl ⟨rfl, xs, .of g3⟩, ?_⟩
      refine step (e1.ea.trans hea) k1 (rs.mono e1) h1 fun es ys W2 k2 e2 r2 h2 => ?_
      exact hr W2 (.loc l) (.ref a) es ys Q k2 (r1.mono e2) r2 (po_of k2 h2)
    · exact h1.elim
  · exact h1.elim
@[simp] def oAppend : OM := fun x ds M => match ds with
  | [y] => (placeOf x).bind fun l => (memAt M l).bind fun xs => if xs.length < sizeLine then some (.p l (xs ++ [y]) .non) else none
  | _ => none
theorem real_append : RealM G oAppend rAppend := fun W d x ds xs Q k r1 r2 q => by
  unfold oAppend at q
  split at q
  · rename_i y
    obtain ⟨v, rfl, r3⟩ := RepL.one r2
    cases e1 : placeOf d with
    | none => rw [e1] at q; exact q.elim
    | some l =>
      cases e2 : memAt W.M l with
      | none => simp only [e1, e2, Option.bind_some, Option.bind_none] at q; exact q.elim
      | some es =>
        simp only [e1, e2, Option.bind_some] at q
        split at q
        · rename_i hl
          have := place_eq e1
          subst this
          obtain ⟨a, g1, rfl⟩ := r1
          obtain ⟨a', zs, g2, g3, g4⟩ := k.there l es (mem_eq e2)
          rw [g1] at g2
          cases g2
          exact ⟨a, zs, v, rfl, rfl, g3, by rw [← g4.length]; exact hl, q a _ .non es (mem_eq e2) g1 (g4.append ⟨v, [], rfl, r3, rfl⟩) rfl⟩
        · exact q.elim
  · exact q.elim
def popOk (i : Int) : Prop := -(2 ^ 63) ≤ i ∧ i < 2 ^ 63
noncomputable instance popOkD (i : Int) : Decidable (popOk i) := Classical.propDecidable _
@[simp] noncomputable def oPopAt : OM := fun x ds M => match ds with
  | [.int i] => (placeOf x).bind fun l => (memAt M l).bind fun xs => if popOk i then (seqIndex? i xs.length).bind fun k => (xs[k]?).map fun y => .p l (xs.eraseIdx k) y else none
  | _ => none
theorem real_popAt : RealM G oPopAt rPopAt := fun W d x ds xs Q k r1 r2 q => by
  unfold oPopAt at q
  split at q
  · rename_i i
    obtain ⟨v, rfl, r3⟩ := RepL.one r2
    cases r3
    cases e1 : placeOf d with
    | none => rw [e1] at q; exact q.elim
    | some l =>
      cases e2 : memAt W.M l with
      | none => simp only [e1, e2, Option.bind_some, Option.bind_none] at q; exact q.elim
      | some es =>
        simp only [e1, e2, Option.bind_some] at q
        split at q
        · rename_i hl
          cases e3 : seqIndex? i es.length with
          | none => rw [e3] at q; exact q.elim
          | some j =>
            cases e4 : es[j]? with
            | none => simp only [e3, e4, Option.bind_some, Option.map_none] at q; exact q.elim
            | some y =>
              simp only [e3, e4, Option.bind_some, Option.map_some] at q
              have := place_eq e1
              subst this
              obtain ⟨a, g1, rfl⟩ := r1
              obtain ⟨a', zs, g2, g3, g4⟩ := k.there l es (mem_eq e2)
              rw [g1] at g2
              cases g2
              obtain ⟨u, g5, g6⟩ := g4.get e4
              exact ⟨a, zs, i, j, u, rfl, rfl, g3, hl.1, hl.2, by rw [← g4.length]; exact e3, g5, q a _ u es (mem_eq e2) g1 (g4.eraseIdx j) g6⟩
        · exact q.elim
  · exact q.elim
noncomputable instance rgOkD (a b : Int) : Decidable (RgOk a b) := Classical.propDecidable _
/-- list(range(..)) -/
noncomputable def rangeA (a : AM) : DSt → Mem → R (List D) := fun τ M => (a τ M).bind fun ds M1 => match ds with
  | [.int n] => if RgOk 0 n then .ok (rangeD 0 n.toNat) M1 else .bad
  | _ => .bad
end
end DM

/-! DM: functions of math; list(range(..)); targets of two names. -/
namespace DM
open PySem PySem.Spec PyProof.Rows L2
section
variable {G : Gd} {X : Cx} {Γ : DC G X} {pos p : Pos}
theorem de_callFun (own : Bool) {x : Str} {a : Expr} {es : List Expr} {mr : AM} {id : String} {g : OA} {r : List V → Hp → VK → Prop} (hr : RealA G g r) (hc : CallR X (.builtin id) r) (hm : X.mg x = some (.builtin id)) (ha : DA Γ (a :: es) mr) (hg : Gl X x := by rfl) (hdb : (x == ("__debug__" : Str)) = false := by decide)
    (he : starEach (a :: es) X.env = (false, eval a X.env) :: starEach es X.env := by rfl) (hpl : (backTo pos (starEach es X.env)).any (·.1) = false := by rfl) : DE Γ (.Call (.Name x p) (a :: es) [] pos) (eArgs own g mr) :=
  pe_imp (pe_callBfun hc hg hm ha hdb he hpl) fun _ _ _ q => tArgs_of hr q
def oComb : OA := fun ds _ => match ds with
  | [.int a, .int b] => if 0 ≤ a ∧ a ≤ 18000 ∧ 0 ≤ b then some (.v (.int (PySem.W.mcComb a b))) else none
  | _ => none
def rComb : List V → Hp → VK → Prop := fun vs H Q => ∃ a b : Int, vs = [.int a, .int b] ∧ (0 ≤ a ∧ a ≤ 18000 ∧ 0 ≤ b) ∧ Q (.int (PySem.W.mcComb a b)) H
theorem cr_comb : CallR X (.builtin "math.comb") rComb := by
  intro pins s σ H vs us Q I r h
  obtain ⟨a, b, rfl, ⟨h1, h2, h3⟩, q⟩ := h
  obtain ⟨t, u, rfl⟩ := Vals.int2 r
  exact PySem.W.mc_comb h1 h3 (by omega) (.inr h2) fun _ => ⟨.int _, H, I.tok _, ⟨_, rfl⟩, q⟩
theorem real_comb : RealA G oComb rComb := fun W ds xs Q k r q => by
  unfold oComb at q
  split at q
  · split at q
    · rename_i hc
      obtain ⟨v, u, rfl, r1, r2⟩ := RepL.two r
      cases r1
      cases r2
      exact ⟨_, _, rfl, hc, q _ W rfl k (Ext.refl W) rfl⟩
    · exact q.elim
  · exact q.elim
noncomputable def oRangeL : OA := fun ds _ => match ds with
  | [.int n] => if RgOk 0 n then some (.l (rangeD 0 n.toNat)) else none
  | [.int a, .int b] => if RgOk a b then some (.l (rangeD a (b - a).toNat)) else none
  | _ => none
theorem rg_rep {W : Wd} (a b : Int) : RepL G W (rangeD a (b - a).toNat) (rgV a b) := by
  rw [rangeD_eq]
  unfold rgV
  generalize List.range (b - a).toNat = l
  induction l with
  | nil => rfl
  | cons i l ih => exact ⟨_, _, rfl, rfl, ih⟩
theorem de_listRange (own : Bool) {a : Expr} {mr : EM} {q1 q2 q3 : Pos} (hm : X.mg "list" = none) (hm2 : X.mg "range" = none) (ha : DE Γ a mr) (hc : X.calm = true := by rfl) (hg : Gl X "list" := by rfl) (hg2 : Gl X "range" := by rfl)
    (na : starEach [a] X.env = (false, eval a X.env) :: starEach [] X.env := by rfl) (nb : starEach [.Call (.Name "range" q2) [a] [] q3] X.env = (false, eval (.Call (.Name "range" q2) [a] [] q3) X.env) :: starEach [] X.env := by rfl) :
    DE Γ (.Call (.Name "list" q1) [.Call (.Name "range" q2) [a] [] q3] [] pos) (eArgs own oRangeL (aCons mr aNil)) := pe_imp (pe_listRg hc hg hm (prg_1 hg2 hm2 ha na) nb) fun σ H Q q => by
  obtain ⟨τ, W, rfl, hea, ok, rs, h⟩ := q
  have h : pR G Γ.W (Rep G) W σ ((mr τ W.M).bind fun x M1 => fin own (oRangeL [x] M1) M1) Q := by
    have e : ∀ r : R D, (r.bind fun x M1 => (aNil τ M1).bind fun xs M2 => R.ok (x :: xs) M2).bind (fun xs M1 => fin own (oRangeL xs M1) M1) = r.bind fun x M1 => fin own (oRangeL [x] M1) M1 := fun r => by
      cases r <;> rfl
    rw [← e]
    exact h
  refine step hea ok rs h fun d v W1 k1 e1 r1 h1 => ?_
  have po := po_of k1 h1
  unfold oRangeL at po
  cases d with
  | int n =>
    have po : pO G W1 (if RgOk 0 n then some (.l (rangeD 0 n.toNat)) else none) Q := po
    split at po
    · rename_i hr
      cases r1
      refine ⟨n, rfl, hr, fun q hq => po _ q ?_ hq⟩
      have := rg_rep (G := G) (W := W1) 0 n
      rw [show (n - 0 : Int) = n by omega] at this
      exact this
    · exact po.elim
  | _ => exact po.elim
theorem hm_tup2 (i j : Nat) : ∀ d τ M τ' M', mTup 2 (mCons (mName i) (mCons (mName j) mNil)) d τ M = .ok τ' M' → M' = M := fun d τ M τ' M' h => by
  unfold mTup at h
  split at h
  · split at h
    · rename_i ds hl
      match ds, hl with
      | [a, b], _ => cases h; rfl
    · cases h
  · split at h
    · rename_i ds hl
      match ds, hl with
      | [a, b], _ => cases h; rfl
    · cases h
  · cases h
end
end DM

/-! DM: what the top has left, by facts; the law. -/
namespace DM
open PySem PySem.Spec PyProof.Rows L2
section
variable {G : Gd} {X : Cx} {Γ : DC G X} {pos p : Pos}
theorem pt_ifExp {c a b : Expr} {tc ta tb : TT} (hc : PT X c tc) (ha : PT X a ta) (hb : PT X b tb) : PT X (.IfExp c a b pos) (fun σ H Q => tc σ H fun k H1 => if k = true then ta σ H1 Q else tb σ H1 Q) := by
  refine ⟨fun pins s σ H Q I h => ?_⟩
  refine isTrue_IfExp (thn (hc.run pins s σ H _ I h) fun k s1 ⟨H1, I1, q1⟩ => ?_)
  cases k with
  | true => exact ha.run pins s1 σ H1 Q I1 q1
  | false => exact hb.run pins s1 σ H1 Q I1 q1
@[simp] def mIf (t a b : TM) : TM := fun τ M => (t τ M).bind fun x M1 => if x = true then a τ M1 else b τ M1
theorem dt_if {c a b : Expr} {tc ta tb : TM} (hc : DT Γ c tc) (ha : DT Γ a ta) (hb : DT Γ b tb) : DT Γ (.IfExp c a b pos) (mIf tc ta tb) := pt_imp (pt_ifExp hc ha hb) fun σ H Q q => by
  obtain ⟨τ, W, rfl, he, ok, rs, h⟩ := q
  show tT Γ tc σ W.H _
  refine step he ok rs h fun dx x W1 k1 e1 r1 h1 => ?_
  cases r1
  cases dx with
  | true => exact ⟨τ, W1, rfl, by rw [e1.ea, he], k1, rs.mono e1, h1⟩
  | false => exact ⟨τ, W1, rfl, by rw [e1.ea, he], k1, rs.mono e1, h1⟩
end
/-- a def stands at a name -/
def Def1 (K : PySem.W.Frag) (x : Str) (st : Stmt) : Prop := ∃ (f : Addr) (oc : Value) (od : Option Addr) (kV doc pm : Value) (an : Option Addr) (cdv ct : Value) (osl : Array (Option Value)),
  PySem.W.nsIn K mainGlobals x = some (some (.ref f)) ∧ K.lookup f = some ⟨oc, od, .func (PySem.W.fnOf x x (defArgs st) (defBody st) (defScope st) .none kV doc pm an cdv ct), osl⟩ ∧ PySem.W.codeIn K cdv x = true ∧ PySem.W.keepIn K (.ref f) = true
theorem Def1.get {K : PySem.W.Frag} {h : Heap} {mg : Str → Option Value} {x : Str} {st : Stmt} (d : Def1 K x st) (X : K.In h) (g : h.Ns mainGlobals mg) : ∃ f fd, Fun K x x st f fd ∧ mg x = some (.ref f) := by
  obtain ⟨f, oc, od, kV, doc, pm, an, cdv, ct, osl, h1, h2, h3, h4⟩ := d
  exact ⟨f, _, fun_mk h2 h3 h4, PySem.W.mg_of X g h1⟩
/-- an own exception class stands at a name -/
structure Exc1 (K : PySem.W.Frag) (x : Str) (C : Addr) : Prop where
  at_ : PySem.W.nsIn K mainGlobals x = some (some (.ref C))
  q : PySem.W.excIn K C [.type "ValueError", .type "Exception", .type "BaseException", .type "object"] "ValueError.__new__" = true
  k : PySem.W.keepIn K (.ref C) = true
  b : PySem.W.subIn K (.ref C) (.type "BaseException") = some true
  t : PySem.W.typeIn K (.ref C) = some (.type "type")
  x : ExcC K C
/-- the law's promise: at every script it gives True -/
def spLaw (K : PySem.W.Frag) : Sp := fun vs H Q _ => ∃ (a : Addr) (ns : List Int), vs = [.ref a] ∧ SqL K H a (ns.map V.int) ∧ ns.length ≤ 63 ∧ ∀ H', Q (.bl true) H'
section
variable {P : Program} {w : World} {G : Gd} {mg : Str → Option Value} {base : Heap} {x qual : Str} {st : Stmt} {f : Addr} {fd : FuncData} {N ps : List Str} {k : Nat} {m : SM}
/-- the law's own def: nothing leaves it -/
def lawC (G : Gd) (P : Program) (w : World) (mg : Str → Option Value) (base : Heap) (N : List Str) (qual : Str) (sc : Scope) (f : Addr) (cdv : Value) (A : Around) (outer : List Env) (s : Shared) (H : Hp) (E : XK) :
    DC G (cxOf CX0 P w G.K mg base N qual sc f cdv A outer s H E).nox := ⟨fun _ _ _ _ => False, none, rfl, takes0⟩
end
end DM
namespace DM
open PySem PySem.Spec PyProof.Rows L2
section
variable {P : Program} {w : World} {G : Gd} {mg : Str → Option Value} {base : Heap} {x qual : Str} {st : Stmt} {f : Addr} {fd : FuncData} {N ps : List Str} {k : Nat} {m : SM}
theorem fn_law (F : Fun G.K x qual st f fd) (S : FnScope N ["script"] (defScope st))
    (hb : ∀ (cdv : Value) (A : Around) (outer : List Env) (s : Shared) (H : Hp) (E : XK), Room k (A.deeper (envOfC qual (defScope st) s.heap.objs.size f cdv)) → DSs (lawC G P w mg base N qual (defScope st) f cdv A outer s H E) (defBody st) m)
    (hl : ∀ ns : List Int, ns.length ≤ 63 → ∃ M, m (startD N [.scr ns]) [] = .rt (.bl true) M) : FnOk P w G.K mg base CX0 (k + 1) f fd ["script"] (spLaw G.K) := by
  refine F.ok S (fun vs H Q E h => ?_) fun cdv A outer s H vs Q E hr h => ?_
  · obtain ⟨a, ns, rfl, _⟩ := h
    rfl
  · obtain ⟨a, ns, rfl, hS, hlen, q⟩ := h
    obtain ⟨M, e⟩ := hl ns hlen
    let W : Wd := { H := H, pla := [], M := [], ea := none, hid := [] }
    have no : ∀ b, ¬ W.own b := fun b z => by
      rcases z with z | ⟨l, ds, z, _⟩
      · cases z
      · have z : ([] : Mem)[l]? = some (some ds) := z
        simp at z
    have ok : WOk G W := by
      refine ⟨rfl, fun l l' a ds ds' z => ?_, fun l ds z => ?_, fun a z => (nomatch z), fun a z => (nomatch z), List.nodup_nil⟩
      · have z : ([] : Mem)[l]? = some (some ds) := z
        simp at z
      · have z : ([] : Mem)[l]? = some (some ds) := z
        simp at z
    refine ⟨_, hb cdv A outer s H E hr, startD N [.scr ns], W, rfl, rfl, ok, relS_start ⟨.ref a, [], rfl, ⟨a, rfl, ?_⟩, rfl⟩, ?_⟩
    · rcases hS with hS | hS
      · exact .inl ⟨hS, no a⟩
      · exact .inr hS
    · have e : m (startD N [.scr ns]) W.M = .rt (.bl true) M := e
      rw [e]
      intro v W' m' k' e' r'
      have r' : v = .bl true := r'
      rw [r']
      exact q W'.H
end
section
variable {G : Gd} {X : Cx} {Γ : DC G X} {pos : Pos}
theorem de_dic : DE Γ (.Dict [] [] pos) (eC .dic) := pe_imp pe_dnewK fun σ H Q q => by
  obtain ⟨τ, W, rfl, he, ok, rs, h⟩ := q
  exact fun p hp => h (.ref p) (W.new p (.dK [])) rfl (ok_new ok hp) (ext_new ok hp) ⟨p, rfl, upd_same, own_new ok hp⟩
end
end DM

/-! DM: tools for working out what mirrors give. -/
namespace DM
open PySem PySem.Spec PyProof.Rows L2
@[simp] theorem chk_nil (M : Mem) : Chk [] M = True := by simp [Chk]
theorem rngOk_nat {n : Nat} (h : n < 2 ^ 62) : rngOk (n : Int) := ⟨by omega, by omega⟩
theorem rngOk_of {n : Int} (h0 : -(2 ^ 62) ≤ n) (h : n < 2 ^ 62) : rngOk n := ⟨h0, h⟩
@[simp] theorem rngOk_s {j : Int} (h0 : -4611686018427387904 ≤ j) (h1 : j < 4611686018427387904) : rngOk j = True := eq_true ⟨h0, h1⟩
@[simp] theorem rngOk_n {j : Nat} (h1 : j < 4611686018427387904) : rngOk (j : Int) = True := eq_true (rngOk_nat h1)
theorem rgOk_of {a b : Int} (h0 : -4611686018427387904 ≤ a) (h1 : a < 4611686018427387904) (h2 : b < 4611686018427387904) (h3 : -4611686018427387904 ≤ b) (h4 : (b - a).toNat ≤ 16777216) : RgOk a b := ⟨h0, h1, h3, h2, h4⟩
theorem repOk_of {n : Nat} {j : Int} (h0 : -9223372036854775808 ≤ j) (h1 : j < 9223372036854775808) (h2 : n * j.toNat ≤ 16777216) : repOk n j := ⟨h0, h1, h2⟩
@[simp] theorem repD_one (n : Nat) (d : D) : repD n [d] = List.replicate n d := by
  unfold repD
  induction n with
  | zero => rfl
  | succ n ih => rw [List.replicate_succ, List.flatten_cons, ih]; rfl
@[simp] theorem iRange1_eq (a : AM) (τ : DSt) (M : Mem) : iRange1 a τ M = (a τ M).bind fun ds M1 => match ds with
  | [.int j] => if rngOk j then .ok { xs := rangeD 0 j.toNat } M1 else .bad
  | _ => .bad := rfl
@[simp] theorem iRange2_eq (a : AM) (τ : DSt) (M : Mem) : iRange2 a τ M = (a τ M).bind fun ds M1 => match ds with
  | [.int i, .int j] => if rngOk i ∧ rngOk j then .ok { xs := rangeD i (j - i).toNat } M1 else .bad
  | _ => .bad := rfl
@[simp] theorem le_line {n : Nat} (h : n ≤ 16777216) : (n ≤ sizeLine) = True := eq_true h
@[simp] theorem rangeD_len (a : Int) (n : Nat) : (rangeD a n).length = n := by simp [rangeD_eq]
theorem filter_all {α : Type} (xs : List α) : xs.filter (fun _ => true) = xs := by simp
section
variable (i j : Int) (b c : Bool) (x y : Str) (n : String) (ds es : List D) (l : Nat) (M : Mem) (d e : D) (ns : List Int)
@[simp] theorem fin_none (o : Bool) : fin o none M = .bad := rfl
@[simp] theorem fin_v (o : Bool) : fin o (some (.v d)) M = .ok d M := rfl
@[simp] theorem fin_lt : fin true (some (.l ds)) M = .ok (.loc M.length) (M ++ [some ds]) := rfl
@[simp] theorem fin_lf : fin false (some (.l ds)) M = .ok (.lst ds) M := rfl
@[simp] theorem fin_p (o : Bool) : fin o (some (.p l ds d)) M = .ok d (M.set l (some ds)) := rfl
@[simp] theorem andS_bad {α : Type} (τ : DSt) (k : α → Mem → RS) : andS (R.bad (α := α)) τ k = .bad := rfl
@[simp] theorem oSub_ii : oSub (.int i) (.int j) M = some (.v (.int (i - j))) := rfl
@[simp] theorem oDiv_ii : oDiv (.int i) (.int j) M = (if CDivG i j then some (D.int (i.fdiv j)) else none).map .v := rfl
@[simp] theorem oMod_ii : oMod (.int i) (.int j) M = (if j ≠ 0 then some (D.int (i.fmod j)) else none).map .v := rfl
@[simp] theorem oPow_ii : oPow (.int i) (.int j) M = (if CPow i j then some (D.int (i ^ j.toNat)) else none).map .v := rfl
@[simp] theorem oLt_ii : oLt (.int i) (.int j) M = some (.v (.bl (decide (i < j)))) := rfl
@[simp] theorem oLe_ii : oLe (.int i) (.int j) M = some (.v (.bl (decide (i ≤ j)))) := rfl
@[simp] theorem oGt_ii : oGt (.int i) (.int j) M = some (.v (.bl (decide (j < i)))) := rfl
@[simp] theorem oGe_ii : oGe (.int i) (.int j) M = some (.v (.bl (decide (j ≤ i)))) := rfl
@[simp] theorem oNeg_i : oNeg (.int i) M = some (.v (.int (-i))) := rfl
@[simp] theorem oAdd_ii : oAdd (.int i) (.int j) M = some (.v (.int (i + j))) := rfl
@[simp] theorem oAdd_tt : oAdd (.tup ds) (.tup es) M = if ds.length + es.length ≤ sizeLine then some (.v (.tup (ds ++ es))) else none := rfl
@[simp] theorem oAdd_l : oAdd (.lst ds) e M = (ownL e M).bind fun es => if ds.length + es.length ≤ sizeLine then some (.l (ds ++ es)) else none := rfl
@[simp] theorem oAdd_loc : oAdd (.loc l) e M = (memAt M l).bind fun ds => (ownL e M).bind fun es => if ds.length + es.length ≤ sizeLine then some (.l (ds ++ es)) else none := rfl
@[simp] theorem oMul_ii : oMul (.int i) (.int j) M = if CMulG i j then some (.v (.int (i * j))) else none := rfl
@[simp] theorem oMul_ti : oMul (.tup ds) (.int j) M = if ds ≠ [] ∧ 2 ≤ j ∧ j ≤ 1000 ∧ ds.length ≤ 1000 then some (.v (.tup (repD j.toNat ds))) else none := rfl
@[simp] theorem oMul_li : oMul (.lst ds) (.int j) M = if repOk ds.length j then some (.l (repD j.toNat ds)) else none := rfl
@[simp] theorem isNon_non : isNon .non = true := rfl
@[simp] theorem isNon_int : isNon (.int i) = false := rfl
@[simp] theorem isNon_bl : isNon (.bl b) = false := rfl
@[simp] theorem isNon_str : isNon (.str x) = false := rfl
@[simp] theorem isNon_tup : isNon (.tup ds) = false := rfl
@[simp] theorem isNon_lst : isNon (.lst ds) = false := rfl
@[simp] theorem isNon_loc : isNon (.loc l) = false := rfl
@[simp] theorem isNon_dic : isNon .dic = false := rfl
@[simp] theorem scaV_non : scaV .non = some .non := rfl
@[simp] theorem scaV_int : scaV (.int i) = some (.int i) := rfl
@[simp] theorem scaV_bl : scaV (.bl b) = some (.bl b) := rfl
@[simp] theorem scaV_str : scaV (.str x) = some (.str x) := rfl
@[simp] theorem seqOf_tup : seqOf (.tup ds) M = some { xs := ds } := rfl
@[simp] theorem seqOf_kt : seqOf (.kt ds) M = some { xs := ds } := rfl
@[simp] theorem seqOf_lst : seqOf (.lst ds) M = some { xs := ds } := rfl
@[simp] theorem seqOf_scr : seqOf (.scr ns) M = some { xs := ns.map D.int } := rfl
theorem seqOf_loc {l : Nat} {M : Mem} {ds : List D} (h : memAt M l = some ds) : seqOf (.loc l) M = some { xs := ds, src := [(l, ds)] } := by
  show (match M[l]? with | some (some ds) => some ({ xs := ds, src := [(l, ds)] } : ItD) | _ => none) = _
  rw [mem_eq h]
theorem lstOf_loc {l : Nat} {M : Mem} {ds : List D} (h : memAt M l = some ds) : lstOf (.loc l) M = some { xs := ds, src := [(l, ds)] } := seqOf_loc h
@[simp] theorem lstOf_lst : lstOf (.lst ds) M = some { xs := ds } := rfl
@[simp] theorem lstOf_scr : lstOf (.scr ns) M = some { xs := ns.map D.int } := rfl
@[simp] theorem tupOf_tup : tupOf (.tup ds) = some ds := rfl
@[simp] theorem tupOf_kt : tupOf (.kt ds) = some ds := rfl
@[simp] theorem tupOf_lst : tupOf (.lst ds) = none := rfl
@[simp] theorem tupOf_loc : tupOf (.loc l) = none := rfl
@[simp] theorem ownL_lst : ownL (.lst ds) M = some ds := rfl
@[simp] theorem ownL_loc : ownL (.loc l) M = memAt M l := rfl
@[simp] theorem intOf_int : intOf (.int i) = some i := rfl
@[simp] theorem placeOf_loc : placeOf (.loc l) = some l := rfl
@[simp] theorem tyM_loc : tyOfM (.loc l) M = (memAt M l).map fun _ => "list" := rfl
@[simp] theorem tyM_non : tyOfM .non M = some "NoneType" := rfl
@[simp] theorem tyM_bl : tyOfM (.bl b) M = some "bool" := rfl
@[simp] theorem tyM_int : tyOfM (.int i) M = some "int" := rfl
@[simp] theorem tyM_str : tyOfM (.str x) M = some "str" := rfl
@[simp] theorem tyM_tup : tyOfM (.tup ds) M = some "tuple" := rfl
@[simp] theorem tyM_lst : tyOfM (.lst ds) M = some "list" := rfl
@[simp] theorem tyM_kt : tyOfM (.kt ds) M = some "tuple" := rfl
@[simp] theorem tyM_dic : tyOfM .dic M = some "dict" := rfl
@[simp] theorem dTru_non : dTru .non M = some false := rfl
@[simp] theorem dTru_bl : dTru (.bl b) M = some b := rfl
@[simp] theorem dTru_int : dTru (.int i) M = some (i != 0) := rfl
@[simp] theorem dTru_tup : dTru (.tup ds) M = some (!ds.isEmpty) := rfl
@[simp] theorem dTru_lst : dTru (.lst ds) M = some (!ds.isEmpty) := rfl
@[simp] theorem dTru_dic : dTru .dic M = some false := rfl
@[simp] theorem oIs_n : oIs d .non M = some (.v (.bl (isNon d))) := rfl
@[simp] theorem oIsNot_n : oIsNot d .non M = some (.v (.bl (!isNon d))) := rfl
@[simp] theorem oEq_ii : oEq (.int i) (.int j) M = some (.v (.bl (decide (i = j)))) := by simp [oEq, scal, scaV]
@[simp] theorem oNe_ii : oNe (.int i) (.int j) M = some (.v (.bl (!decide (i = j)))) := by simp [oNe, scal, scaV]
@[simp] theorem oEq_bb : oEq (.bl b) (.bl c) M = some (.v (.bl (decide (b = c)))) := by simp [oEq, scal, scaV]
@[simp] theorem oEq_ss : oEq (.str x) (.str y) M = some (.v (.bl (decide (x = y)))) := by simp [oEq, scal, scaV]
@[simp] theorem oIsi_1 : oIsi [d, .ty n] M = (tyOfM d M).bind fun t => if n ∈ tys ∧ n ≠ "NoneType" then some (.v (.bl (isTy t n))) else none := rfl
@[simp] theorem oIsi_2 : oIsi [d, .tup ds] M = (tyOfM d M).bind fun t => (tyNames ds).bind fun ns => if (ns.all fun n => decide (n ∈ tys) && decide (n ≠ "NoneType")) = true then some (.v (.bl (ns.any (isTy t)))) else none := rfl
@[simp] theorem oLen_1 : oLen [d] M = (seqOf d M).map fun it => .v (.int it.xs.length) := rfl
@[simp] theorem oAbs_1 : oAbs [.int i] M = some (.v (.int (if i < 0 then -i else i))) := rfl
@[simp] theorem oInt_i : oInt [.int i] M = some (.v (.int i)) := rfl
@[simp] theorem oInt_b : oInt [.bl b] M = some (.v (.int (if b then 1 else 0))) := rfl
@[simp] theorem oMax2_1 : oMax2 [.int i, .int j] M = some (.v (.int (if j > i then j else i))) := rfl
@[simp] theorem oMin2_1 : oMin2 [.int i, .int j] M = some (.v (.int (if j < i then j else i))) := rfl
@[simp] theorem oGcd_1 : oGcd [.int i, .int j] M = some (.v (.int ((Nat.gcd i.natAbs j.natAbs : Nat) : Int))) := rfl
@[simp] theorem oComb_1 : oComb [.int i, .int j] M = if 0 ≤ i ∧ i ≤ 18000 ∧ 0 ≤ j then some (.v (.int (PySem.W.mcComb i j))) else none := rfl
@[simp] theorem oSum_1 : oSum [d] M = (lstOf d M).bind fun it => (intsOf it.xs).bind fun is => (some (D.int is.sum)).map .v := rfl
@[simp] theorem oAll_1 : oAll [d] M = (lstOf d M).bind fun it => (blsOf it.xs).map fun is => .v (.bl (is.all id)) := rfl
@[simp] theorem oAny_1 : oAny [d] M = (lstOf d M).bind fun it => (blsOf it.xs).map fun is => .v (.bl (is.any id)) := rfl
@[simp] theorem oList_1 : oList [d] M = (seqOf d M).map fun it => .l it.xs := rfl
@[simp] theorem oTuple_t : oTuple [.tup ds] M = some (.v (.tup ds)) := rfl
@[simp] theorem oTuple_l : oTuple [.lst ds] M = some (.v (.tup ds)) := rfl
theorem oTuple_loc {l : Nat} {M : Mem} {ds : List D} (h : memAt M l = some ds) : oTuple [.loc l] M = some (.v (.tup ds)) := by
  show (lstOf (.loc l) M).map (fun it => ON.v (.tup it.xs)) = _
  rw [lstOf_loc h]
  rfl
@[simp] theorem oRangeL_1 : oRangeL [.int i] M = if RgOk 0 i then some (.l (rangeD 0 i.toNat)) else none := rfl
@[simp] theorem oRev_l : oRev d M = (lstOf d M).map fun it => .l it.xs.reverse := rfl
end
section
variable {α : Type} (a b c d e f g h : α) (xs : List α)
@[simp] theorem atI_0 : atI (a :: xs) 0 = some a := atI_nat (j := 0) rfl
@[simp] theorem atI_1 : atI (a :: b :: xs) 1 = some b := atI_nat (j := 1) rfl
@[simp] theorem atI_2 : atI (a :: b :: c :: xs) 2 = some c := atI_nat (j := 2) rfl
@[simp] theorem atI_3 : atI (a :: b :: c :: d :: xs) 3 = some d := atI_nat (j := 3) rfl
@[simp] theorem atI_4 : atI (a :: b :: c :: d :: e :: xs) 4 = some e := atI_nat (j := 4) rfl
theorem atI_of {xs : List α} {i : Int} {x : α} (h0 : 0 ≤ i) (h : xs[i.toNat]? = some x) : atI xs i = some x := by
  have := atI_nat h
  rwa [Int.toNat_of_nonneg h0] at this
theorem ixN_of {n : Nat} {i : Int} (h0 : 0 ≤ i) (h : i < n) : ixN n i = some i.toNat := by
  unfold ixN
  rw [if_pos h0, if_pos h]
theorem atI_map {β : Type} (f : β → α) (xs : List β) (i : Int) : atI (xs.map f) i = (atI xs i).map f := by
  unfold atI
  rw [List.length_map]
  cases ixN xs.length i with
  | none => rfl
  | some j => simp
end
theorem scal_ii (a b : Int) : scal (.int a) (.int b) = true := rfl
@[simp] theorem dec_vint (a b : Int) : (V.int a = V.int b) = (a = b) := by simp
@[simp] theorem dec_vbl (a b : Bool) : (V.bl a = V.bl b) = (a = b) := by simp
@[simp] theorem dec_vstr (a b : Str) : (V.str a = V.str b) = (a = b) := by simp
@[simp] theorem memAt_app (M : Mem) (ds : List D) : memAt (M ++ [some ds]) M.length = some ds := by simp [memAt]
theorem memAt_of {M : Mem} {l : Nat} {ds : List D} (h : M[l]? = some (some ds)) : memAt M l = some ds := by simp [memAt, h]
theorem memAt_lt {M : Mem} {l : Nat} {ds : List D} (h : memAt M l = some ds) : l < M.length := (List.getElem?_eq_some_iff.mp (mem_eq h)).1
@[simp] theorem memAt_set_self {M : Mem} {l : Nat} {ds : List D} (h : l < M.length) : memAt (M.set l (some ds)) l = some ds := by simp [memAt, h]
theorem memAt_set_ne {M : Mem} {l k : Nat} {o : Option (List D)} (h : k ≠ l) : memAt (M.set k o) l = memAt M l := by simp [memAt, List.getElem?_set_ne h]
theorem memAt_app_lt {M : Mem} {l : Nat} {o : Option (List D)} (h : l < M.length) : memAt (M ++ [o]) l = memAt M l := by simp [memAt, List.getElem?_append_left h]

/-- a loop, step by step: R says how the state stands for x -/
theorem forL_rel {α β : Type} {src : List (Nat × List D)} {g : GM} {b : SM} {enc : β → D} {R : α → DSt → Mem → Prop} {f : α → β → α} {Inv : α → List β → Prop}
    (hs : ∀ x y ys τ M, Inv x (y :: ys) → R x τ M → Chk src M ∧ ∃ τ1 M1 τ' M', g (enc y) τ M = .ok τ1 M1 ∧ (b τ1 M1 = .nx τ' M' ∨ b τ1 M1 = .ct τ' M') ∧ R (f x y) τ' M' ∧ Inv (f x y) ys)
    (he : ∀ x τ M, Inv x [] → R x τ M → Chk src M) : ∀ (ys : List β) (x : α) (τ : DSt) (M : Mem), Inv x ys → R x τ M →
    ∃ τ' M', forL src g b (ys.map enc) τ M = .nx τ' M' ∧ R (ys.foldl f x) τ' M' ∧ Inv (ys.foldl f x) []
  | [], x, τ, M, hi, hr => ⟨τ, M, by simp [forL, he x τ M hi hr], hr, hi⟩
  | y :: ys, x, τ, M, hi, hr => by
    obtain ⟨hc, τ1, M1, τ', M', e1, e2, hr', hi'⟩ := hs x y ys τ M hi hr
    obtain ⟨τ2, M2, e3, hr2, hi2⟩ := forL_rel hs he ys (f x y) τ' M' hi' hr'
    refine ⟨τ2, M2, ?_, hr2, hi2⟩
    rw [List.map_cons]
    unfold forL
    rw [if_pos hc]
    simp only [e1]
    rcases e2 with e2 | e2 <;> (simp only [e2]; exact e3)
/-- a loop that is left by break when it is done -/
theorem forL_brk {α : Type} {g : GM} {b : SM} {R : α → DSt → Mem → Prop} {done : α → Bool} {f : α → α} {Inv : α → Prop}
    (hb : ∀ x d τ M, Inv x → R x τ M → done x = true → ∃ τ1 M1 τ' M', g d τ M = .ok τ1 M1 ∧ b τ1 M1 = .bk τ' M' ∧ R x τ' M')
    (hs : ∀ x d τ M, Inv x → R x τ M → done x = false → ∃ τ1 M1 τ' M', g d τ M = .ok τ1 M1 ∧ b τ1 M1 = .nx τ' M' ∧ R (f x) τ' M' ∧ Inv (f x)) :
    ∀ (k : Nat) (ds : List D) (x : α) (τ : DSt) (M : Mem), Inv x → R x τ M → k < ds.length → done (Nat.repeat f k x) = true → (∀ j, j < k → done (Nat.repeat f j x) = false) →
      ∃ τ' M', forL [] g b ds τ M = .nx τ' M' ∧ R (Nat.repeat f k x) τ' M'
  | k, [], x, τ, M, hi, hr, hk, hd, hn => absurd hk (Nat.not_lt_zero _)
  | 0, d :: ds, x, τ, M, hi, hr, hk, hd, hn => by
    obtain ⟨τ1, M1, τ', M', e1, e2, hr'⟩ := hb x d τ M hi hr hd
    refine ⟨τ', M', ?_, hr'⟩
    unfold forL
    simp [e1, e2]
  | k + 1, d :: ds, x, τ, M, hi, hr, hk, hd, hn => by
    obtain ⟨τ1, M1, τ', M', e1, e2, hr', hi'⟩ := hs x d τ M hi hr (hn 0 (by omega))
    have rep : ∀ j, Nat.repeat f j (f x) = Nat.repeat f (j + 1) x := fun j => by
      induction j with
      | zero => rfl
      | succ j ih => show f (Nat.repeat f j (f x)) = _; rw [ih]; rfl
    obtain ⟨τ2, M2, e3, hr2⟩ := forL_brk hb hs k ds (f x) τ' M' hi' hr' (by simpa using hk) (by rw [rep]; exact hd) (fun j hj => by rw [rep]; exact hn (j + 1) (by omega))
    refine ⟨τ2, M2, ?_, by rw [← rep]; exact hr2⟩
    unfold forL
    simp [e1, e2, e3]
/-- a while loop by steps -/
theorem whileN_rel {α : Type} {c : TM} {b : SM} {R : α → DSt → Mem → Prop} {done : α → Bool} {f : α → α} {Inv : α → Prop}
    (hd : ∀ x τ M, Inv x → R x τ M → ∃ M1, c τ M = .ok (!done x) M1 ∧ R x τ M1)
    (hs : ∀ x τ M, Inv x → R x τ M → done x = false → ∃ τ' M', b τ M = .nx τ' M' ∧ R (f x) τ' M' ∧ Inv (f x)) :
    ∀ (k : Nat) (x : α) (τ : DSt) (M : Mem), Inv x → R x τ M → done (Nat.repeat f k x) = true → (∀ j, j < k → done (Nat.repeat f j x) = false) →
      ∃ τ' M', whileN c b (k + 1) τ M = .nx τ' M' ∧ R (Nat.repeat f k x) τ' M'
  | 0, x, τ, M, hi, hr, h0, hn => by
    obtain ⟨M1, e1, hr1⟩ := hd x τ M hi hr
    have h0 : done x = true := h0
    refine ⟨τ, M1, ?_, hr1⟩
    unfold whileN
    simp [e1, h0]
  | k + 1, x, τ, M, hi, hr, h0, hn => by
    obtain ⟨M1, e1, hr1⟩ := hd x τ M hi hr
    have hx : done x = false := hn 0 (by omega)
    obtain ⟨τ', M', e2, hr', hi'⟩ := hs x τ M1 hi hr1 hx
    have rep : ∀ j, Nat.repeat f j (f x) = Nat.repeat f (j + 1) x := fun j => by
      induction j with
      | zero => rfl
      | succ j ih => show f (Nat.repeat f j (f x)) = _; rw [ih]; rfl
    obtain ⟨τ2, M2, e3, hr2⟩ := whileN_rel hd hs k (f x) τ' M' hi' hr' (by rw [rep]; exact h0) (fun j hj => by rw [rep]; exact hn (j + 1) (by omega))
    refine ⟨τ2, M2, ?_, by rw [← rep]; exact hr2⟩
    unfold whileN
    simp [e1, hx, e2, e3]
theorem sWhile_rel {α : Type} {c : TM} {b : SM} {R : α → DSt → Mem → Prop} {done : α → Bool} {f : α → α} {Inv : α → Prop}
    (hd : ∀ x τ M, Inv x → R x τ M → ∃ M1, c τ M = .ok (!done x) M1 ∧ R x τ M1)
    (hs : ∀ x τ M, Inv x → R x τ M → done x = false → ∃ τ' M', b τ M = .nx τ' M' ∧ R (f x) τ' M' ∧ Inv (f x))
    {k : Nat} {x : α} {τ : DSt} {M : Mem} (hi : Inv x) (hr : R x τ M) (h1 : done (Nat.repeat f k x) = true) (h2 : ∀ j, j < k → done (Nat.repeat f j x) = false) :
    ∃ τ' M', sWhile c b τ M = .nx τ' M' ∧ R (Nat.repeat f k x) τ' M' := by
  obtain ⟨τ', M', e, hr'⟩ := whileN_rel hd hs k x τ M hi hr h1 h2
  refine ⟨τ', M', ?_, hr'⟩
  rw [sWhile_eq (n := k + 1) (by rw [e]; exact fun h => nomatch h), e]
/-- a comprehension whose items' values are known -/
theorem lcL_map {β : Type} {src : List (Nat × List D)} {g : GM} {t : TM} {e : EM} {enc : β → D} {p : β → Bool} {v : β → D} {τ : DSt} {M : Mem} (hc : Chk src M) : ∀ (ys : List β),
    (∀ y, y ∈ ys → ∃ τ1, g (enc y) τ M = .ok τ1 M ∧ t τ1 M = .ok (p y) M ∧ (p y = true → e τ1 M = .ok (v y) M)) → lcL src g t e (ys.map enc) τ M = .ok ((ys.filter p).map v) M
  | [], _ => by simp [lcL, hc]
  | y :: ys, h => by
    obtain ⟨τ1, e1, e2, e3⟩ := h y List.mem_cons_self
    have ih := lcL_map hc ys fun z hz => h z (List.mem_cons_of_mem _ hz)
    rw [List.map_cons]
    unfold lcL
    rw [if_pos hc]
    cases hp : p y with
    | true => simp [e1, e2, hp, e3 hp, ih, List.filter_cons]
    | false => simp [e1, e2, hp, ih, List.filter_cons]
theorem lcL_all {β : Type} {src : List (Nat × List D)} {g : GM} {e : EM} {enc : β → D} {v : β → D} {τ : DSt} {M : Mem} (hc : Chk src M) (ys : List β)
    (h : ∀ y, y ∈ ys → ∃ τ1, g (enc y) τ M = .ok τ1 M ∧ e τ1 M = .ok (v y) M) : lcL src g mYes e (ys.map enc) τ M = .ok (ys.map v) M := by
  have := lcL_map (t := mYes) (e := e) (p := fun _ => true) (v := v) hc ys fun y hy => by
    obtain ⟨τ1, e1, e2⟩ := h y hy
    exact ⟨τ1, e1, by simp, fun _ => e2⟩
  rwa [filter_all] at this
/-! trees without places -/
@[simp] theorem clo_int (n : Nat) (i : Int) : Clo n (.int i) = True := rfl
@[simp] theorem clo_bl (n : Nat) (i : Bool) : Clo n (.bl i) = True := rfl
@[simp] theorem clo_str (n : Nat) (i : Str) : Clo n (.str i) = True := rfl
@[simp] theorem clo_non (n : Nat) : Clo n .non = True := rfl
@[simp] theorem clo_tup (n : Nat) (ds : List D) : Clo n (.tup ds) = CloL n ds := rfl
@[simp] theorem clo_lst (n : Nat) (ds : List D) : Clo n (.lst ds) = CloL n ds := rfl
@[simp] theorem clo_loc (n l : Nat) : Clo n (.loc l) = (l < n) := rfl
@[simp] theorem cloL_nil (n : Nat) : CloL n [] = True := rfl
@[simp] theorem cloL_cons (n : Nat) (d : D) (ds : List D) : CloL n (d :: ds) = (Clo n d ∧ CloL n ds) := rfl
@[simp] theorem cloL_ints (n : Nat) (is : List Int) : CloL n (is.map .int) = True := by
  simp [CloL_iff]
theorem fz_clo {M : Mem} {n : Nat} {d : D} (h : Clo n d) : fz M n d = some d := by simp [fz, h]
theorem fz_loc {M : Mem} {n l : Nat} {ds : List D} (hl : n ≤ l) (h : memAt M l = some ds) (hc : CloL n ds) (hk : ∀ k, ds.mapM (fzD M n (k + 1)) = some ds) : fz M n (.loc l) = some (.lst ds) := by
  unfold fz
  rw [if_neg (by simp; omega)]
  show (if l < n then some (D.loc l) else (memAt M l).bind fun ds => (ds.mapM (fzD M n 5)).map D.lst) = _
  rw [if_neg (by omega), h]
  show (ds.mapM (fzD M n (4 + 1))).map D.lst = _
  rw [hk 4]
  rfl
theorem mapM_some {f : D → Option D} : ∀ {ds : List D}, (∀ d ∈ ds, f d = some d) → ds.mapM f = some ds
  | [], _ => rfl
  | d :: ds, h => by
    rw [List.mapM_cons, h d List.mem_cons_self, mapM_some fun x hx => h x (List.mem_cons_of_mem _ hx)]
    rfl
theorem fz_ints {M : Mem} {n l : Nat} {is : List Int} (hl : n ≤ l) (h : memAt M l = some (is.map .int)) : fz M n (.loc l) = some (.lst (is.map .int)) := by
  refine fz_loc hl h (by simp) fun k => mapM_some fun d hd => ?_
  obtain ⟨i, _, rfl⟩ := List.mem_map.mp hd
  rfl
theorem kept_app {M : Mem} {o : List (Option (List D))} : Kept M (M ++ o) := ⟨by simp, fun l hl => .inl (List.getElem?_append_left hl)⟩
theorem trunc_app {M : Mem} {o : List (Option (List D))} {d d' : D} (h : fz (M ++ o) M.length d = some d') : trunc M (M ++ o) d = .ok d' M := by
  unfold trunc
  rw [if_pos kept_app, h]
  simp
theorem trunc_same {M : Mem} {d d' : D} (h : fz M M.length d = some d') : trunc M M d = .ok d' M := by
  have := trunc_app (o := []) (d := d) (d' := d') (M := M) (by rw [List.append_nil]; exact h)
  rw [List.append_nil] at this
  exact this
end DM

/-! DM: loops by measures; numbers. -/
namespace DM
open PySem PySem.Spec PyProof.Rows L2
/-- a loop over a range that is left by break, or goes on with a smaller measure -/
theorem forL_mu {α : Type} {g : GM} {b : SM} {R : α → DSt → Mem → Prop} {F : DSt → Mem → Prop} (μ : α → Nat)
    (h : ∀ x d τ M, R x τ M → ∃ τ1 M1, g d τ M = .ok τ1 M1 ∧ ((∃ τ' M', b τ1 M1 = .bk τ' M' ∧ F τ' M') ∨ (∃ x' τ' M', b τ1 M1 = .nx τ' M' ∧ R x' τ' M' ∧ μ x' < μ x))) :
    ∀ (ds : List D) (x : α) (τ : DSt) (M : Mem), R x τ M → μ x < ds.length → ∃ τ' M', forL [] g b ds τ M = .nx τ' M' ∧ F τ' M'
  | [], x, τ, M, hr, hk => absurd hk (Nat.not_lt_zero _)
  | d :: ds, x, τ, M, hr, hk => by
    obtain ⟨τ1, M1, e1, e2⟩ := h x d τ M hr
    rcases e2 with ⟨τ', M', e2, hf⟩ | ⟨x', τ', M', e2, hr', hm⟩
    · refine ⟨τ', M', ?_, hf⟩
      unfold forL
      simp [e1, e2]
    · obtain ⟨τ2, M2, e3, hf⟩ := forL_mu μ h ds x' τ' M' hr' (by simp at hk; omega)
      refine ⟨τ2, M2, ?_, hf⟩
      unfold forL
      simp [e1, e2, e3]
/-- a while loop that goes on with a smaller measure -/
theorem whileN_mu {α : Type} {c : TM} {b : SM} {R : α → DSt → Mem → Prop} {F : DSt → Mem → Prop} (μ : α → Nat)
    (h : ∀ x τ M, R x τ M → (∃ M1, c τ M = .ok false M1 ∧ F τ M1) ∨ (∃ M1 x' τ' M', c τ M = .ok true M1 ∧ b τ M1 = .nx τ' M' ∧ R x' τ' M' ∧ μ x' < μ x)) :
    ∀ (n : Nat) (x : α) (τ : DSt) (M : Mem), R x τ M → μ x < n → ∃ τ' M', whileN c b n τ M = .nx τ' M' ∧ F τ' M'
  | 0, x, τ, M, hr, hk => absurd hk (Nat.not_lt_zero _)
  | n + 1, x, τ, M, hr, hk => by
    rcases h x τ M hr with ⟨M1, e1, hf⟩ | ⟨M1, x', τ', M', e1, e2, hr', hm⟩
    · refine ⟨τ, M1, ?_, hf⟩
      unfold whileN
      simp [e1]
    · obtain ⟨τ2, M2, e3, hf⟩ := whileN_mu μ h n x' τ' M' hr' (by omega)
      refine ⟨τ2, M2, ?_, hf⟩
      unfold whileN
      simp [e1, e2, e3]
theorem sWhile_mu {α : Type} {c : TM} {b : SM} {R : α → DSt → Mem → Prop} {F : DSt → Mem → Prop} (μ : α → Nat)
    (h : ∀ x τ M, R x τ M → (∃ M1, c τ M = .ok false M1 ∧ F τ M1) ∨ (∃ M1 x' τ' M', c τ M = .ok true M1 ∧ b τ M1 = .nx τ' M' ∧ R x' τ' M' ∧ μ x' < μ x))
    (x : α) (τ : DSt) (M : Mem) (hr : R x τ M) : ∃ τ' M', sWhile c b τ M = .nx τ' M' ∧ F τ' M' := by
  obtain ⟨τ', M', e, hf⟩ := whileN_mu μ h (μ x + 1) x τ M hr (by omega)
  refine ⟨τ', M', ?_, hf⟩
  rw [sWhile_eq (n := μ x + 1) (by rw [e]; exact fun h => nomatch h), e]
/-- a loop over a list that goes on to its end -/
theorem forL_all {β : Type} {g : GM} {b : SM} {enc : β → D} {src : List (Nat × List D)} {R : List β → DSt → Mem → Prop}
    (h : ∀ y ys τ M, R (y :: ys) τ M → Chk src M ∧ ∃ τ1 M1 τ' M', g (enc y) τ M = .ok τ1 M1 ∧ (b τ1 M1 = .nx τ' M' ∨ b τ1 M1 = .ct τ' M') ∧ R ys τ' M') (h0 : ∀ τ M, R [] τ M → Chk src M) :
    ∀ (ys : List β) (τ : DSt) (M : Mem), R ys τ M → ∃ τ' M', forL src g b (ys.map enc) τ M = .nx τ' M' ∧ R [] τ' M'
  | [], τ, M, hr => ⟨τ, M, by simp [forL, h0 τ M hr], hr⟩
  | y :: ys, τ, M, hr => by
    obtain ⟨hc, τ1, M1, τ', M', e1, e2, hr'⟩ := h y ys τ M hr
    obtain ⟨τ2, M2, e3, hr2⟩ := forL_all h h0 ys τ' M' hr'
    refine ⟨τ2, M2, ?_, hr2⟩
    rw [List.map_cons]
    unfold forL
    rw [if_pos hc]
    simp only [e1]
    rcases e2 with e2 | e2 <;> (simp only [e2]; exact e3)
/-- a loop over so many things: what holds at each turn -/
theorem forL_idx {g : GM} {b : SM} {enc : Nat → D} {src : List (Nat × List D)} {n : Nat} {R : Nat → DSt → Mem → Prop}
    (h : ∀ i τ M, i < n → R i τ M → Chk src M ∧ ∃ τ1 M1 τ' M', g (enc i) τ M = .ok τ1 M1 ∧ (b τ1 M1 = .nx τ' M' ∨ b τ1 M1 = .ct τ' M') ∧ R (i + 1) τ' M') (h0 : ∀ τ M, R n τ M → Chk src M)
    {τ : DSt} {M : Mem} (hr : R 0 τ M) : ∃ τ' M', forL src g b ((List.range n).map enc) τ M = .nx τ' M' ∧ R n τ' M' := by
  have fin : ∀ i, ([] : List Nat) = (List.range n).drop i → i ≤ n → i = n := fun i h hi => by
    have := congrArg List.length h
    simp at this
    omega
  have := forL_all (g := g) (b := b) (enc := enc) (src := src) (R := fun ys τ M => ∃ i, ys = (List.range n).drop i ∧ i ≤ n ∧ R i τ M)
    (fun y ys τ M hR => by
      obtain ⟨i, e, hi, hR⟩ := hR
      have hlt : i < n := by
        by_cases z : i < n
        · exact z
        · have : (List.range n).drop i = [] := List.drop_eq_nil_of_le (by simp; omega)
          rw [this] at e
          cases e
      have ed : (List.range n).drop i = i :: (List.range n).drop (i + 1) := by
        rw [List.drop_eq_getElem_cons (by simpa using hlt)]
        simp
      rw [ed] at e
      obtain ⟨ey, es⟩ := List.cons.inj e
      obtain ⟨hc, τ1, M1, τ', M', e1, e2, e3⟩ := h i τ M hlt hR
      exact ⟨hc, τ1, M1, τ', M', by rw [ey]; exact e1, e2, i + 1, es, hlt, e3⟩) (fun τ M ⟨i, e, hi, hR⟩ => by
      have := fin i e hi
      subst this
      exact h0 _ _ hR) (List.range n) τ M ⟨0, rfl, by omega, hr⟩
  obtain ⟨τ', M', e, i, h1, h2, h3⟩ := this
  have := fin i h1 h2
  subst this
  exact ⟨τ', M', e, h3⟩
/-- a loop over range(lo, lo + n): what holds at each turn -/
theorem forL_range {g : GM} {b : SM} {lo : Int} {n : Nat} {R : Nat → DSt → Mem → Prop}
    (h : ∀ i τ M, i < n → R i τ M → ∃ τ1 M1 τ' M', g (.int (lo + i)) τ M = .ok τ1 M1 ∧ (b τ1 M1 = .nx τ' M' ∨ b τ1 M1 = .ct τ' M') ∧ R (i + 1) τ' M')
    {τ : DSt} {M : Mem} (hr : R 0 τ M) : ∃ τ' M', forL [] g b (rangeD lo n) τ M = .nx τ' M' ∧ R n τ' M' := by
  rw [rangeD_eq]
  exact forL_idx (fun i τ M hi hR => ⟨by simp, h i τ M hi hR⟩) (fun _ _ _ => by simp) hr
theorem enumD_range' (f : Nat → D) : ∀ (n s : Nat), enumD s ((List.range' s n).map f) = (List.range' s n).map fun j => .tup [.int j, f j]
  | 0, s => rfl
  | n + 1, s => by
    rw [List.range'_succ, List.map_cons, List.map_cons]
    have := enumD_range' f n (s + 1)
    unfold enumD
    rw [← this]
theorem enumD_range (f : Nat → D) (n : Nat) : enumD 0 ((List.range n).map f) = (List.range n).map fun j => .tup [.int j, f j] := by
  have := enumD_range' f n 0
  rw [← List.range_eq_range'] at this
  exact this
/-! whole numbers -/
theorem fmod_pos {a b : Int} (h : 0 ≤ b) : a.fmod b = a % b := Int.fmod_eq_emod_of_nonneg _ h
theorem fdiv_pos {a b : Int} (h : 0 ≤ b) : a.fdiv b = a / b := Int.fdiv_eq_ediv_of_nonneg _ h
theorem cmul_l {i j : Int} (h : i.natAbs < 2 ^ 64) : CMulG i j := .inr (.inl h)
theorem cmul_r {i j : Int} (h : j.natAbs < 2 ^ 64) : CMulG i j := .inr (.inr h)
theorem log2_le {n k : Nat} (h : n < 2 ^ (k + 1)) : n.log2 ≤ k := by
  have := PySem.Flt.log2_lt_of (n := n) (k := k + 1) (by omega) h
  omega
theorem cmul_log {i j : Int} {a b : Nat} (hi : i.natAbs < 2 ^ (a + 1)) (hj : j.natAbs < 2 ^ (b + 1)) (h : a + b < 130000000) : CMulG i j := by
  have := log2_le hi
  have := log2_le hj
  exact .inl (by omega)
theorem cdiv_small {i j : Int} (h0 : j ≠ 0) (h : j.natAbs < 2 ^ 9000) : CDivG i j := ⟨h0, PySem.Flt.log2_lt_of (by omega) h⟩
end DM

/-! DM: a module's dict whose keys are whole numbers, read by [ ]. -/
namespace DM
open PySem PySem.Spec PyProof.Rows L2
def KRow (G : Gd) (r : Int × D) (e : DictEntry) : Prop := e.hash = hashInt r.1 ∧ (∃ t, e.key = .int r.1 t) ∧ ∃ v, RelV v e.val ∧ ∀ W : Wd, Rep G W r.2 v
def KDict (G : Gd) (a : Addr) (rows : List (Int × D)) : Prop :=
  ∃ (o : Obj) (es : Array DictEntry) (ep : Nat), G.K.lookup a = some o ∧ o.ExactDict ∧ o.data = .dict es ep ∧ Paired (KRow G) rows es.toList
theorem krow_keys {P : Program} {w : World} {G : Gd} {rows : List (Int × D)} {l : List DictEntry} (h : Paired (KRow G) rows l) : ∀ e ∈ l, ∃ k, (mixKind P w).is k e.key = true ∧ e.hash = (mixKind P w).hash k := by
  induction h with
  | nil => exact fun _ h => nomatch h
  | cons h t ih =>
    intro e he
    rcases List.mem_cons.mp he with rfl | he
    · obtain ⟨h1, ⟨t, h2⟩, _⟩ := h
      exact ⟨.inl _, by rw [h2]; exact mixKind_int P w _ t, h1⟩
    · exact ih e he
theorem krow_find {P : Program} {w : World} {G : Gd} {rows : List (Int × D)} {l : List DictEntry} (h : Paired (KRow G) rows l) {k : Int} {r : Int × D} (hr : rows.find? (fun r => r.1 == k) = some r) :
    ∃ e v, l.find? (fun e => (mixKind P w).is (.inl k) e.key) = some e ∧ RelV v e.val ∧ ∀ W : Wd, Rep G W r.2 v := by
  induction h with
  | nil => exact nomatch hr
  | @cons p e ps es h t ih =>
    obtain ⟨h1, ⟨t', h2⟩, v, h3, h4⟩ := h
    rw [List.find?_cons] at hr ⊢
    have hk : (mixKind P w).is (.inl k) e.key = (p.1 == k) := by
      rw [h2, mixKind_is]
      show Value.isInt k (.int p.1 t') = _
      by_cases q : p.1 = k <;> simp [Value.isInt, q]
    rw [hk]
    cases q : p.1 == k with
    | true =>
      rw [q] at hr
      cases hr
      exact ⟨e, v, rfl, h3, h4⟩
    | false =>
      rw [q] at hr
      exact ih hr
def eKd (rows : List (Int × D)) (b : EM) : EM := fun τ M => (b τ M).bind fun y M1 => match y with
  | .int k => match rows.find? (fun r => r.1 == k) with
    | some r => .ok r.2 M1
    | none => .bad
  | _ => .bad
section
variable {G : Gd} {X : Cx} {Γ : DC G X} {pos : Pos}
theorem de_kd {o i : Expr} {u : Addr} {rows : List (Int × D)} {mb : EM} (ho : PE X o (tC (.ref u))) (hd : KDict G u rows) (hi : DE Γ i mb) (hs : NoSl i := by intro _ _; rfl) : DE Γ (.Subscript o i pos) (eKd rows mb) := ⟨fun pins s σ H Q I q => by
  obtain ⟨τ, W, rfl, he, ok, rs, h⟩ := q
  refine subD_of PySem.F.slot_dict_getitem.lookup hs (thn (ho.run pins s σ W.H (fun v H1 => v = .ref u ∧ H1 = W.H) I ⟨rfl, rfl⟩) fun ov s1 ⟨x, H1, I1, rx, ex, eH⟩ => ?_)
  subst ex eH
  obtain rfl : ov = Value.ref u := rx
  refine thn (hi.run pins s1 σ W.H (fun y H2 => ∃ k r, y = .int k ∧ rows.find? (fun r => r.1 == k) = some r ∧ ∀ v : V, (∀ W : Wd, Rep G W r.2 v) → Q v H2) I1 (step he ok rs h fun d v W1 k1 e1 r1 h1 => ?_)) fun iv s2 ⟨y, H2, I2, ry, k, r, ey, hr, q⟩ => ?_
  · split at h1
    · rename_i k
      have r1 : v = .int k := r1
      split at h1
      · rename_i r hr
        exact ⟨k, r, r1, hr, fun v hv => h1 v W1 rfl k1 (Ext.refl W1) (hv W1)⟩
      · exact h1.elim
    · exact h1.elim
  · subst ey
    obtain ⟨ob, es, ep, lk, hx, hdt, hp⟩ := hd
    obtain ⟨e, v, h1, h2, h3⟩ := krow_find (P := X.prog) (w := X.w) hp hr
    have lk : X.K.lookup u = some ob := by rw [Γ.hK]; exact lk
    have mo : s2.heap.MapOf (mixKind X.prog X.w) u fun k => findBy (mixKind X.prog X.w).is es k := ⟨ob, es, ep, I2.kIn _ _ lk, hx, hdt, fun e he => krow_keys hp e (by simpa using he), fun _ => rfl⟩
    refine ⟨mo.typeIs, wpAny_getItem_of (k := .inl k) (v := e.val) (kV_is (k := .inl k) ry) mo ?_ ⟨v, H2, I2.tok _, h2, q v h3⟩⟩
    show (es.find? _).map _ = _
    rw [← Array.find?_toList, h1]
    rfl⟩
end
end DM

/-! DM: what the top has left: facts of the written part, and what the rules want of them. -/
namespace DM
open PySem PySem.Spec PyProof.Rows L2
section
variable {K : PySem.W.Frag} {h : Heap} {mg : Str → Option Value}
theorem Def1.mk1 (X : K.In h) {x : Str} {st : Stmt} {f : Addr} {oc : Value} {od : Option Addr} {kV doc pm : Value} {an : Option Addr} {cdv ct : Value} {osl : Array (Option Value)}
    (a : PySem.W.nsIn K mainGlobals x = some (some (.ref f))) (b : K.lookup f = some ⟨oc, od, .func (PySem.W.fnOf x x (defArgs st) (defBody st) (defScope st) .none kV doc pm an cdv ct), osl⟩) (c : PySem.W.codeIn K cdv x = true) (d : PySem.W.keepIn K (.ref f) = true) : Def1 K x st :=
  ⟨f, oc, od, kV, doc, pm, an, cdv, ct, osl, a, b, c, d⟩
def No1 (K : PySem.W.Frag) (x : Str) : Prop := PySem.W.nsIn K mainGlobals x = some none
theorem No1.mk1 (X : K.In h) {x : Str} (a : PySem.W.nsIn K mainGlobals x = some none) : No1 K x := a
theorem No1.get {x : Str} (e : No1 K x) (X : K.In h) (g : h.Ns mainGlobals mg) : mg x = none := PySem.W.mg_none_of X g e
def Blt1 (K : PySem.W.Frag) (x : Str) (b : String) : Prop := PySem.W.nsIn K mainGlobals x = some (some (.builtin b))
theorem Blt1.mk1 (X : K.In h) {x : Str} {b : String} (a : PySem.W.nsIn K mainGlobals x = some (some (.builtin b))) : Blt1 K x b := a
theorem Blt1.get {x : Str} {b : String} (e : Blt1 K x b) (X : K.In h) (g : h.Ns mainGlobals mg) : mg x = some (.builtin b) := PySem.W.mg_of X g e
def Int1 (K : PySem.W.Frag) (x : Str) (i : Int) : Prop := ∃ t, PySem.W.nsIn K mainGlobals x = some (some (.int i t))
theorem Int1.mk1 (X : K.In h) {x : Str} {i : Int} {t : Tok} (a : PySem.W.nsIn K mainGlobals x = some (some (.int i t))) : Int1 K x i := ⟨t, a⟩
theorem Int1.get {x : Str} {i : Int} (e : Int1 K x i) (X : K.In h) (g : h.Ns mainGlobals mg) : ∃ t, mg x = some (.int i t) := let ⟨t, a⟩ := e; ⟨t, PySem.W.mg_of X g a⟩

/-! ### tuples of whole numbers, tuples of such, dicts of such -/
def valInt : Value → Option Int
  | .int i _ => some i
  | _ => none
def valRef : Value → Option Addr
  | .ref a => some a
  | _ => none
def mapO {α β : Type} (f : α → Option β) : List α → Option (List β)
  | [] => some []
  | x :: xs => match f x, mapO f xs with
    | some y, some ys => some (y :: ys)
    | _, _ => none
def tupItems (o : Obj) : Option (List Value) := match o with
  | ⟨.type "tuple", _, .seq its _, _⟩ => if its.size ≤ sizeLine then some its.toList else none
  | _ => none
theorem mapO_paired {α β : Type} {f : α → Option β} : ∀ {xs : List α} {ys : List β}, mapO f xs = some ys → Paired (fun y x => f x = some y) ys xs
  | [], ys, h => by
    cases h
    exact .nil
  | x :: xs, ys, h => by
    unfold mapO at h
    split at h
    · rename_i y zs h1 h2
      cases h
      exact .cons h1 (mapO_paired h2)
    · cases h
/-- a tuple of whole numbers -/
def KtI (K : PySem.W.Frag) (u : Addr) (is : List Int) : Prop := ∃ o its, K.lookup u = some o ∧ tupItems o = some its ∧ mapO valInt its = some is
theorem KtI.mk1 (X : K.In h) {u : Addr} {o : Obj} {its : List Value} {is : List Int} (a : K.lookup u = some o) (b : tupItems o = some its) (c : mapO valInt its = some is) : KtI K u is := ⟨o, its, a, b, c⟩
theorem tup_items {o : Obj} {its : List Value} (h : tupItems o = some its) : ∃ (a : Array Value) (n : Nat), o.cls = .type "tuple" ∧ o.data = .seq a n ∧ a.size ≤ sizeLine ∧ a.toList = its := by
  unfold tupItems at h
  split at h
  · split at h
    · rename_i its' n _ hs
      cases h
      exact ⟨its', n, rfl, rfl, hs, rfl⟩
    · cases h
  · cases h
theorem KtI.rep {G : Gd} {u : Addr} {is : List Int} (t : KtI G.K u is) (W : Wd) : Rep G W (.kt (is.map .int)) (.ref u) := by
  obtain ⟨o, its, l, h1, h2⟩ := t
  obtain ⟨a, n, c, d, s, e⟩ := tup_items h1
  refine ⟨u, is.map V.int, rfl, ⟨o, a, n, l, c, d, s, ?_⟩, RepL.of_ints is⟩
  rw [e]
  have := mapO_paired h2
  clear h1 h2 l e c d s
  induction this with
  | nil => exact .nil
  | @cons i v is its h t ih =>
    refine .cons ?_ ih
    cases v <;> simp [valInt] at h
    subst h
    exact ⟨_, rfl⟩
/-- a tuple of tuples of whole numbers, at a name -/
def KtT (K : PySem.W.Frag) (x : Str) (rows : List (List Int)) : Prop := ∃ u o its as, PySem.W.nsIn K mainGlobals x = some (some (.ref u)) ∧ K.lookup u = some o ∧ tupItems o = some its ∧ mapO valRef its = some as ∧ Paired (fun r a => KtI K a r) rows as
theorem KtT.mk1 (X : K.In h) {x : Str} {u : Addr} {o : Obj} {its : List Value} {as : List Addr} {rows : List (List Int)} (a : PySem.W.nsIn K mainGlobals x = some (some (.ref u))) (b : K.lookup u = some o) (c : tupItems o = some its) (d : mapO valRef its = some as)
    (e : Paired (fun r a => KtI K a r) rows as) : KtT K x rows := ⟨u, o, its, as, a, b, c, d, e⟩
theorem KtT.get {G : Gd} {x : Str} {rows : List (List Int)} (t : KtT G.K x rows) (X : G.K.In h) (g : h.Ns mainGlobals mg) : ∃ u, mg x = some (.ref u) ∧ ∀ W : Wd, Rep G W (.kt (rows.map fun r => .kt (r.map .int))) (.ref u) := by
  obtain ⟨u, o, its, as, h1, l, h2, h3, h4⟩ := t
  refine ⟨u, PySem.W.mg_of X g h1, fun W => ?_⟩
  obtain ⟨a, n, c, d, s, e⟩ := tup_items h2
  refine ⟨u, as.map V.ref, rfl, ⟨o, a, n, l, c, d, s, ?_⟩, ?_⟩
  · rw [e]
    have := mapO_paired h3
    clear h2 h3 h4 l e c d s
    induction this with
    | nil => exact .nil
    | @cons i v is its h t ih =>
      refine .cons ?_ ih
      cases v <;> simp [valRef] at h
      subst h
      rfl
  · clear h3
    induction h4 with
    | nil => rfl
    | cons h t ih => exact ⟨_, _, rfl, h.rep W, ih⟩
/-- a tuple of whole numbers, at a name -/
def KtN (K : PySem.W.Frag) (x : Str) (is : List Int) : Prop := ∃ u, PySem.W.nsIn K mainGlobals x = some (some (.ref u)) ∧ KtI K u is
theorem KtN.mk1 (X : K.In h) {x : Str} {u : Addr} {is : List Int} (a : PySem.W.nsIn K mainGlobals x = some (some (.ref u))) (b : KtI K u is) : KtN K x is := ⟨u, a, b⟩
theorem KtN.get {G : Gd} {x : Str} {is : List Int} (t : KtN G.K x is) (X : G.K.In h) (g : h.Ns mainGlobals mg) : ∃ u, mg x = some (.ref u) ∧ ∀ W : Wd, Rep G W (.kt (is.map .int)) (.ref u) :=
  let ⟨u, a, b⟩ := t; ⟨u, PySem.W.mg_of X g a, b.rep⟩
/-- a dict from whole numbers to tuples of whole numbers, at a name -/
def dictRow (e : DictEntry) : Option (Int × Addr) := match e with
  | ⟨hs, .int i _, .ref a⟩ => if hs = hashInt i then some (i, a) else none
  | _ => none
def dictItems (o : Obj) : Option (List DictEntry) := match o with
  | ⟨.type "dict", none, .dict es _, ⟨[]⟩⟩ => some es.toList
  | _ => none
def KdN (K : PySem.W.Frag) (x : Str) (rows : List (Int × List Int)) : Prop := ∃ u o es ps, PySem.W.nsIn K mainGlobals x = some (some (.ref u)) ∧ K.lookup u = some o ∧ dictItems o = some es ∧ mapO dictRow es = some ps ∧ Paired (fun r p => r.1 = p.1 ∧ KtI K p.2 r.2) rows ps
theorem KdN.mk1 (X : K.In h) {x : Str} {u : Addr} {o : Obj} {es : List DictEntry} {ps : List (Int × Addr)} {rows : List (Int × List Int)} (a : PySem.W.nsIn K mainGlobals x = some (some (.ref u))) (b : K.lookup u = some o) (c : dictItems o = some es) (d : mapO dictRow es = some ps)
    (e : Paired (fun r p => r.1 = p.1 ∧ KtI K p.2 r.2) rows ps) : KdN K x rows := ⟨u, o, es, ps, a, b, c, d, e⟩
theorem dict_items {o : Obj} {es : List DictEntry} (h : dictItems o = some es) : ∃ (a : Array DictEntry) (n : Nat), o.ExactDict ∧ o.data = .dict a n ∧ a.toList = es := by
  unfold dictItems at h
  split at h
  · rename_i es' n
    cases h
    exact ⟨es', n, ⟨rfl, rfl, rfl⟩, rfl, rfl⟩
  · cases h
theorem KdN.get {G : Gd} {x : Str} {rows : List (Int × List Int)} (t : KdN G.K x rows) (X : G.K.In h) (g : h.Ns mainGlobals mg) : ∃ u, mg x = some (.ref u) ∧ KDict G u (rows.map fun r => (r.1, .kt (r.2.map .int))) := by
  obtain ⟨u, o, es, ps, h1, l, h2, h3, h4⟩ := t
  refine ⟨u, PySem.W.mg_of X g h1, ?_⟩
  obtain ⟨a, n, hx, hd, e⟩ := dict_items h2
  refine ⟨o, a, n, l, hx, hd, ?_⟩
  rw [e]
  have := mapO_paired h3
  clear h2 h3 e
  induction h4 generalizing es with
  | nil =>
    cases this
    exact .nil
  | @cons r p rs ps h t ih =>
    cases this with
    | @cons _ e _ es h' t' =>
      refine .cons ?_ (ih es t')
      obtain ⟨hs, k, v⟩ := e
      cases k <;> try (simp [dictRow] at h'; done)
      cases v <;> try (simp [dictRow] at h'; done)
      rename_i i t a
      unfold dictRow at h'
      simp only [Option.ite_none_right_eq_some, Option.some.injEq] at h'
      obtain ⟨h5, h6⟩ := h'
      subst h6
      obtain ⟨h7, h8⟩ := h
      refine ⟨?_, ⟨t, ?_⟩, .ref a, rfl, h8.rep⟩
      · rw [h5, h7]
      · show Value.int i t = Value.int r.1 t
        rw [h7]

/-! ### own exception classes -/
theorem Exc1.mk1 (X : K.In h) {x : Str} {C : Addr} (a : PySem.W.nsIn K mainGlobals x = some (some (.ref C)))
    (q : PySem.W.excIn K C [.type "ValueError", .type "Exception", .type "BaseException", .type "object"] "ValueError.__new__" = true)
    (k : PySem.W.keepIn K (.ref C) = true) (b : PySem.W.subIn K (.ref C) (.type "BaseException") = some true) (t : PySem.W.typeIn K (.ref C) = some (.type "type"))
    (hg : PySem.W.findIn K (.ref C) "__getattribute__" = some (some (.builtin "BaseException.__getattribute__"))) (hk : PySem.W.findIn K (.ref C) "__getattr__" = some none)
    (hd : PySem.W.hasDictIn K C = true) (ha : PySem.W.findIn K (.ref C) "__class__" = some (some (.builtin "object.__class__")))
    (hn : PySem.W.specialIn K (.builtin "object.__class__") "__get__" = some (some (.builtin "getset_descriptor.__get__"))) (ht : PySem.W.takesIn K (.builtin "object.__class__") = some true)
    (hm : PySem.W.mroIn K C (.type "object") = some true) : Exc1 K x C := ⟨a, q, k, b, t, ⟨hg, hk, b, hd, ha, hn, ht, hm⟩⟩
theorem Exc1.exm {x : Str} {C D : Addr} {b : Bool} (e : Exc1 K x C) (h : PySem.W.subIn K (.ref D) (.ref C) = some b) : PySem.W.exmOne K (.ref D) (.ref C) = some b := PySem.W.exm_ref e.b e.x.hd e.t h
theorem Exc1.kit {x : Str} {C D : Addr} {b : Bool} (e : Exc1 K x C) (h : PySem.W.subIn K (.ref D) (.ref C) = some b) (hs : PySem.W.subIn K (.ref C) (.ref C) = some true) : PySem.W.kitOne K (.ref D) (.ref C) = some b := by
  have q := e.exm h
  unfold PySem.W.exmOne at q
  split at q
  · unfold PySem.W.kitOne
    split
    · rename_i z
      have z : (Value.ref D) = .ref C := by simpa using z
      cases z
      rw [hs] at h
      exact h
    · exact q
  · cases q
end
/-- the law's end -/
theorem law_end {prog : Program} {w : World} {K : PySem.W.Frag} {mg : Str → Option Value} {fa f : Addr} {fd : FuncData} {st : Stmt} {k : Nat} {h : Heap} {base : Heap → Prop} (X : K.In h) (g : h.Ns mainGlobals mg) (F : Fun K "law" "law" st f fd) (hg : mg "law" = some (.ref f)) (hf : mg "law" = some (.ref fa))
    (hb : ∀ (kV doc pm : Value) (an : Option Addr) (cdv ct u : Value), bindArgs (PySem.W.fnOf "law" "law" (defArgs st) (defBody st) (defScope st) .none kV doc pm an cdv ct) ⟨[u], []⟩ = pure [(("script" : Str), u)])
    (hok : ∀ base : Heap, K.In base → base.Ns mainGlobals mg → FnOk prog w K mg base CX0 k f fd ["script"] (spLaw K)) :
    ∃ fd : FuncData, (∀ (s : Shared) (u : Value), BindsTo s fd ⟨[u], []⟩ [("script", u)]) ∧ ∀ base : Heap, K.In base → base.Ns mainGlobals mg → FnOk prog w K mg base CX0 k fa fd ["script"] (spLaw K) := by
  rw [hg] at hf
  cases hf
  obtain ⟨oc, od, kV, doc, pm, an, cdv, ct, osl, rfl, lk, hcd⟩ := F.ex
  exact ⟨_, fun s u => .of_eq (hb _ _ _ _ _ _ u), hok⟩
end DM

namespace Sh
open PySem PySem.Spec PyProof.Rows L2 DM
abbrev N_is_whole : List Str := ["value"]
noncomputable def m_is_whole : SM := (sRet (eAnd (eArgs false oIsi (aCons (eVar 0) (aCons (eC (.ty "int")) aNil))) (eNot (eArgs false oIsi (aCons (eVar 0) (aCons (eC (.ty "bool")) aNil))))))
noncomputable def c_is_whole : FM := fun ds M => endK M (m_is_whole (startD N_is_whole ds) M)
abbrev N__law_pool : List Str := ["script", "cell"]
noncomputable def m__law_pool : SM := (sRet (eArgs true oLst (aCons (eLc false (iSeq (eVar 0)) (mName 1) mYes (eIf (asB (eBin false oGe (eVar 1) (eC (.int 0)))) (eBin false oMul (eC (.int 2)) (eVar 1)) (eBin false oSub (eBin false oMul (eUn false oNeg (eC (.int 2))) (eVar 1)) (eC (.int 1)))) [1]) (aCons (eC (.int 0)) (aCons (eC (.int 0)) (aCons (eC (.int 17)) aNil))))))
noncomputable def c__law_pool : FM := fun ds M => endK M (m__law_pool (startD N__law_pool ds) M)
abbrev N__law_take : List Str := ["pool", "many", "digit", "cell", "mixed"]
noncomputable def m__law_take (r : FM) : SM := (sSeq (sIf (asB (eBin false oGt (eBin false oIx (eVar 0) (eC (.int 2))) (eC (.int 0)))) (sSeq (sSet 2 (eBin false oMod (eArgs false oInt (aCons (eBin false oIx (eVar 0) (eC (.int 2))) aNil)) (eVar 1))) (sSeq (sAsg (eBin false oDiv (eBin false oIx (eVar 0) (eC (.int 2))) (eVar 1)) (mSub (eVar 0) (eC (.int 2)))) (sRet (eVar 2)))) sNil) (sSeq (sSet 3 (eC (.int 0))) (sSeq (sIf (asB (eBin false oLt (eBin false oIx (eVar 0) (eC (.int 1))) (eArgs false oLen (aCons (eBin false oIx (eVar 0) (eC (.int 0))) aNil)))) (sSet 3 (eBin false oIx (eBin false oIx (eVar 0) (eC (.int 0))) (eBin false oIx (eVar 0) (eC (.int 1))))) sNil) (sSeq (sAsg (eBin false oAdd (eBin false oIx (eVar 0) (eC (.int 1))) (eC (.int 1))) (mSub (eVar 0) (eC (.int 1)))) (sSeq (sIf (asB (eBin false oGe (eVar 3) (eBin false oPow (eC (.int 10)) (eC (.int 18))))) (sSeq (sAsg (eBin false oDiv (eVar 3) (eC (.int 2))) (mSub (eVar 0) (eC (.int 2)))) (sRet (eCall 2 (r) (aCons (eVar 0) (aCons (eVar 1) aNil))))) sNil) (sSeq (sAsg (eBin false oMod (eArgs false oInt (aCons (eBin false oAdd (eBin false oAdd (eBin false oMul (eBin false oIx (eVar 0) (eC (.int 3))) (eC (.int 48271))) (eBin false oMul (eVar 3) (eC (.int 69621)))) (eBin false oMul (eBin false oIx (eVar 0) (eC (.int 1))) (eC (.int 613)))) aNil)) (eC (.int 2147483647))) (mSub (eVar 0) (eC (.int 3)))) (sSeq (sSet 4 (eBin false oMod (eArgs false oInt (aCons (eBin false oAdd (eBin false oAdd (eBin false oMul (eBin false oIx (eVar 0) (eC (.int 3))) (eBin false oIx (eVar 0) (eC (.int 3)))) (eBin false oMul (eBin false oIx (eVar 0) (eC (.int 3))) (eC (.int 7919)))) (eC (.int 104729))) aNil)) (eC (.int 1000000007)))) (sRet (eBin false oMod (eArgs false oInt (aCons (eBin false oDiv (eVar 4) (eC (.int 3))) aNil)) (eVar 1))))))))))
noncomputable def c__law_take : Nat → FM
  | 0 => fun _ _ => .bad
  | d + 1 => fun ds M => endK M (m__law_take (c__law_take d) (startD N__law_take ds) M)
abbrev N__law_pick : List Str := ["pool", "rows"]
noncomputable def m__law_pick : SM := (sRet (eBin false oIx (eVar 1) (eCall 2 (c__law_take 2) (aCons (eVar 0) (aCons (eArgs false oLen (aCons (eVar 1) aNil)) aNil)))))
noncomputable def c__law_pick : FM := fun ds M => endK M (m__law_pick (startD N__law_pick ds) M)
abbrev N__law_is_integer : List Str := ["actual"]
noncomputable def m__law_is_integer : SM := (sRet (eAnd (eArgs false oIsi (aCons (eVar 0) (aCons (eC (.ty "int")) aNil))) (eNot (eArgs false oIsi (aCons (eVar 0) (aCons (eC (.ty "bool")) aNil))))))
noncomputable def c__law_is_integer : FM := fun ds M => endK M (m__law_is_integer (startD N__law_is_integer ds) M)
abbrev N__law_same : List Str := ["actual", "due", "k"]
noncomputable def m__law_same (r : FM) : SM := (sSeq (sIf (asT (eArgs false oIsi (aCons (eVar 1) (aCons (eC (.ty "tuple")) aNil)))) (sSeq (sIf (mOr (mNot (asT (eArgs false oIsi (aCons (eVar 0) (aCons (eC (.ty "tuple")) aNil))))) (asB (eBin false oNe (eArgs false oLen (aCons (eVar 0) aNil)) (eArgs false oLen (aCons (eVar 1) aNil))))) (sRet (eC (.bl false))) sNil) (sRet (eArgs false oAll (aCons (eLc false (iRange1 (aCons (eArgs false oLen (aCons (eVar 1) aNil)) aNil)) (mName 2) mYes (eCall 2 (r) (aCons (eBin false oIx (eVar 0) (eVar 2)) (aCons (eBin false oIx (eVar 1) (eVar 2)) aNil))) [2]) aNil)))) sNil) (sSeq (sIf (asT (eArgs false oIsi (aCons (eVar 1) (aCons (eC (.ty "list")) aNil)))) (sSeq (sIf (mOr (mNot (asT (eArgs false oIsi (aCons (eVar 0) (aCons (eC (.ty "list")) aNil))))) (asB (eBin false oNe (eArgs false oLen (aCons (eVar 0) aNil)) (eArgs false oLen (aCons (eVar 1) aNil))))) (sRet (eC (.bl false))) sNil) (sRet (eArgs false oAll (aCons (eLc false (iRange1 (aCons (eArgs false oLen (aCons (eVar 1) aNil)) aNil)) (mName 2) mYes (eCall 2 (r) (aCons (eBin false oIx (eVar 0) (eVar 2)) (aCons (eBin false oIx (eVar 1) (eVar 2)) aNil))) [2]) aNil)))) sNil) (sSeq (sIf (asB (eBin false oIs (eVar 1) (eC .non))) (sRet (eBin false oIs (eVar 0) (eC .non))) sNil) (sSeq (sIf (asT (eArgs false oIsi (aCons (eVar 1) (aCons (eC (.ty "bool")) aNil)))) (sRet (eAnd (eArgs false oIsi (aCons (eVar 0) (aCons (eC (.ty "bool")) aNil))) (eBin false oEq (eVar 0) (eVar 1)))) sNil) (sSeq (sIf (asT (eArgs false oIsi (aCons (eVar 1) (aCons (eC (.ty "str")) aNil)))) (sRet (eAnd (eArgs false oIsi (aCons (eVar 0) (aCons (eC (.ty "str")) aNil))) (eBin false oEq (eVar 0) (eVar 1)))) sNil) (sRet (eAnd (eCall 1 (c__law_is_integer) (aCons (eVar 0) aNil)) (eBin false oEq (eVar 0) (eVar 1)))))))))
noncomputable def c__law_same : Nat → FM
  | 0 => fun _ _ => .bad
  | d + 1 => fun ds M => endK M (m__law_same (c__law_same d) (startD N__law_same ds) M)
abbrev N__law_power : List Str := ["base", "many", "found", "turn"]
noncomputable def m__law_power : SM := (sSeq (sSet 2 (eC (.int 1))) (sSeq (sFor (iRange1 (aCons (eVar 1) aNil)) (mName 3) (sSet 2 (eBin false oMul (eVar 2) (eVar 0)))) (sRet (eVar 2))))
noncomputable def c__law_power : FM := fun ds M => endK M (m__law_power (startD N__law_power ds) M)
abbrev N_power : List Str := ["base", "many", "found", "_"]
noncomputable def m_power : SM := (sSeq (sSet 2 (eC (.int 1))) (sSeq (sFor (iRange1 (aCons (eVar 1) aNil)) (mName 3) (sSet 2 (eBin false oMul (eVar 2) (eVar 0)))) (sRet (eVar 2))))
noncomputable def c_power : FM := fun ds M => endK M (m_power (startD N_power ds) M)
end Sh

/-! what the laws' helpers give -/
namespace Sh
open PySem PySem.Spec PyProof.Rows L2 DM
@[simp] theorem tys_int : ("int" ∈ tys) = True := by simp [tys]
@[simp] theorem tys_bool : ("bool" ∈ tys) = True := by simp [tys]
@[simp] theorem tys_str : ("str" ∈ tys) = True := by simp [tys]
@[simp] theorem tys_tuple : ("tuple" ∈ tys) = True := by simp [tys]
@[simp] theorem tys_list : ("list" ∈ tys) = True := by simp [tys]
@[simp] theorem tys_dict : ("dict" ∈ tys) = True := by simp [tys]
theorem isWhole_spec {d : D} {M : Mem} {t : String} (h : tyOfM d M = some t) : c_is_whole [d] M = .ok (.bl (isTy t "int" && !isTy t "bool")) M := by
  unfold c_is_whole m_is_whole
  simp [startD, h]
  cases isTy t "int" <;> simp [h]
theorem isInteger_spec {d : D} {M : Mem} {t : String} (h : tyOfM d M = some t) : c__law_is_integer [d] M = .ok (.bl (isTy t "int" && !isTy t "bool")) M := by
  unfold c__law_is_integer m__law_is_integer
  simp [startD, h]
  cases isTy t "int" <;> simp [h]
@[simp] theorem isWhole_int (i : Int) (M : Mem) : c_is_whole [.int i] M = .ok (.bl true) M := by rw [isWhole_spec (t := "int") rfl]; rfl
@[simp] theorem isWhole_bl (i : Bool) (M : Mem) : c_is_whole [.bl i] M = .ok (.bl false) M := by rw [isWhole_spec (t := "bool") rfl]; rfl
@[simp] theorem isWhole_non (M : Mem) : c_is_whole [.non] M = .ok (.bl false) M := by rw [isWhole_spec (t := "NoneType") rfl]; rfl
@[simp] theorem isWhole_str (x : Str) (M : Mem) : c_is_whole [.str x] M = .ok (.bl false) M := by rw [isWhole_spec (t := "str") rfl]; rfl
@[simp] theorem isWhole_tup (ds : List D) (M : Mem) : c_is_whole [.tup ds] M = .ok (.bl false) M := by rw [isWhole_spec (t := "tuple") rfl]; rfl
@[simp] theorem isWhole_lst (ds : List D) (M : Mem) : c_is_whole [.lst ds] M = .ok (.bl false) M := by rw [isWhole_spec (t := "list") rfl]; rfl
@[simp] theorem isWhole_dic (M : Mem) : c_is_whole [.dic] M = .ok (.bl false) M := by rw [isWhole_spec (t := "dict") rfl]; rfl
@[simp] theorem isInteger_int (i : Int) (M : Mem) : c__law_is_integer [.int i] M = .ok (.bl true) M := by rw [isInteger_spec (t := "int") rfl]; rfl

/-! ### the pool -/
structure PoolV (ds : List D) : Prop where
  ex : ∃ (cells : List Int) (a b c : Int), ds = [.lst (cells.map .int), .int a, .int b, .int c] ∧ (∀ x ∈ cells, 0 ≤ x) ∧ 0 ≤ a ∧ 0 ≤ b ∧ 0 ≤ c ∧ c < 2147483647
def PoolAt (l : Nat) (M : Mem) : Prop := ∃ ds, memAt M l = some ds ∧ PoolV ds
/-- only the pool has moved on -/
def PStep (l : Nat) (M M' : Mem) : Prop := ∃ ds, M' = M.set l (some ds) ∧ PoolV ds
theorem PoolAt.step {l : Nat} {M M' : Mem} (h : PoolAt l M) (s : PStep l M M') : PoolAt l M' := by
  obtain ⟨ds, h1, _⟩ := h
  obtain ⟨es, rfl, h2⟩ := s
  exact ⟨es, memAt_set_self (memAt_lt h1), h2⟩
theorem PStep.trans {l : Nat} {M M1 M2 : Mem} (a : PStep l M M1) (b : PStep l M1 M2) : PStep l M M2 := by
  obtain ⟨ds, rfl, _⟩ := a
  obtain ⟨es, rfl, h⟩ := b
  exact ⟨es, by rw [List.set_set], h⟩
theorem PStep.refl {l : Nat} {M : Mem} (h : PoolAt l M) : PStep l M M := by
  obtain ⟨ds, h1, h2⟩ := h
  refine ⟨ds, ?_, h2⟩
  apply List.ext_getElem?
  intro i
  by_cases e : l = i
  · subst e
    rw [List.getElem?_set_self (memAt_lt h1), mem_eq h1]
  · rw [List.getElem?_set_ne e]
theorem PStep.other {l k : Nat} {M M' : Mem} (s : PStep l M M') (h : k ≠ l) : memAt M' k = memAt M k := by
  obtain ⟨ds, rfl, _⟩ := s
  exact memAt_set_ne (Ne.symm h)
theorem PStep.len {l : Nat} {M M' : Mem} (s : PStep l M M') : M'.length = M.length := by
  obtain ⟨ds, rfl, _⟩ := s
  simp
theorem PStep.app {l : Nat} {M M' : Mem} {o : Mem} (h : PoolAt l M) (s : PStep l (M ++ o) M') : ∃ M1, M' = M1 ++ o ∧ PStep l M M1 := by
  obtain ⟨ds, rfl, h2⟩ := s
  obtain ⟨es, h1, _⟩ := h
  exact ⟨M.set l (some ds), List.set_append_left _ _ (memAt_lt h1), ds, rfl, h2⟩
theorem PoolAt.app {l : Nat} {M : Mem} {o : Mem} (h : PoolAt l M) : PoolAt l (M ++ o) := by
  obtain ⟨es, h1, h2⟩ := h
  exact ⟨es, by simp [memAt, List.getElem?_append_left (memAt_lt h1)]; exact h1, h2⟩
theorem log2_lt {n k : Nat} (h0 : 0 < k) (h : n < 2 ^ k) : n.log2 < k := PySem.Flt.log2_lt_of h0 h
theorem small_log {n : Nat} (h : n < 2 ^ 64) : n.log2 < 9000 := Nat.lt_trans (log2_lt (by decide) h) (by decide)

theorem take_left {r : FM} {l : Nat} {M : Mem} {cells : List Int} {a b c n : Int} (hm : memAt M l = some [.lst (cells.map .int), .int a, .int b, .int c]) (hc : ∀ x ∈ cells, 0 ≤ x) (ha : 0 ≤ a) (hb : 0 < b) (h0 : 0 ≤ c) (h1 : c < 2147483647) (hn : 0 < n) (hn2 : n < 2 ^ 64) :
    ∃ i M', endK M (m__law_take r (startD N__law_take [.loc l, .int n]) M) = .ok (.int i) M' ∧ 0 ≤ i ∧ i < n ∧ PStep l M M' := by
  have hl := memAt_lt hm
  have hlog : n.natAbs.log2 < 9000 := small_log (by omega)
  refine ⟨b.fmod n, M.set l (some [.lst (cells.map .int), .int a, .int (b.fdiv n), .int c]), ?_, ?_, ?_, ⟨_, rfl, ⟨cells, a, _, c, rfl, hc, ha, ?_, h0, h1⟩⟩⟩
  · unfold m__law_take
    have hn0 : ¬ n = 0 := by omega
    simp [startD, seqOf_loc hm, hm, ixN, hb, hn0, CDivG, hlog]
  · rw [Int.fmod_eq_emod_of_nonneg _ (by omega)]; exact Int.emod_nonneg _ (by omega)
  · rw [Int.fmod_eq_emod_of_nonneg _ (by omega)]; exact Int.emod_lt_of_pos _ hn
  · rw [Int.fdiv_eq_ediv_of_nonneg _ (by omega)]; exact Int.ediv_nonneg (by omega) (by omega)
/-- what a draw gives -/
theorem take_spec {l : Nat} {M : Mem} {n : Int} (hp : PoolAt l M) (hn : 0 < n) (hn2 : n < 2 ^ 64) (k : Nat) : ∃ i M', c__law_take (k + 2) [.loc l, .int n] M = .ok (.int i) M' ∧ 0 ≤ i ∧ i < n ∧ PStep l M M' := by
  obtain ⟨ds, hm, ⟨cells, a, b, c, rfl, hc, ha, hb, h0, h1⟩⟩ := hp
  have hl := memAt_lt hm
  have hlog : n.natAbs.log2 < 9000 := small_log (by omega)
  have hn0 : ¬ n = 0 := by omega
  by_cases hb0 : 0 < b
  · exact take_left hm hc ha hb0 h0 h1 hn hn2
  have eb : b = 0 := by omega
  subst eb
  -- the cell
  have cell : ∃ cell : Int, 0 ≤ cell ∧ ((a < (cells.length : Int) ∧ atI (cells.map D.int) a = some (.int cell)) ∨ (¬ a < (cells.length : Int) ∧ cell = 0)) := by
    by_cases hlt : a < (cells.length : Int)
    · have hj : a.toNat < cells.length := by omega
      refine ⟨cells[a.toNat], hc _ (List.getElem_mem hj), .inl ⟨hlt, ?_⟩⟩
      simp [atI, ixN, ha, hlt, hj]
    · exact ⟨0, by omega, .inr ⟨hlt, rfl⟩⟩
  obtain ⟨cell, hcell, hat⟩ := cell
  have hset : ∀ ds, memAt (M.set l (some ds)) l = some ds := fun ds => memAt_set_self hl
  show ∃ i M', endK M (m__law_take (c__law_take (k + 1)) (startD N__law_take [.loc l, .int n]) M) = .ok (.int i) M' ∧ 0 ≤ i ∧ i < n ∧ PStep l M M'
  by_cases hbig : 10 ^ 18 ≤ cell
  · -- the rest is kept for later draws
    have e2 : memAt (M.set l (some [.lst (cells.map .int), .int (a + 1), .int (cell.fdiv 2), .int c])) l = some [.lst (cells.map .int), .int (a + 1), .int (cell.fdiv 2), .int c] := hset _
    have hq : 0 < cell.fdiv 2 := by rw [Int.fdiv_eq_ediv_of_nonneg _ (by omega)]; omega
    obtain ⟨i, M', h2, h3, h4, h5⟩ := take_left (r := c__law_take k) e2 hc (by omega) hq h0 h1 hn hn2
    refine ⟨i, M', ?_, h3, h4, ?_⟩
    · have h2 : c__law_take (k + 1) [.loc l, .int n] (M.set l (some [.lst (cells.map .int), .int (a + 1), .int (cell.fdiv 2), .int c])) = .ok (.int i) M' := h2
      unfold m__law_take
      have hlog2 : Nat.log2 2 < 9000 := by decide
      have hbig' : (1000000000000000000 : Int) ≤ cell := hbig
      rcases hat with ⟨hlt, hat⟩ | ⟨hlt, hat⟩
      · simp [startD, seqOf_loc hm, hm, hset, seqOf_loc (hset _), ixN, hn0, CDivG, hlt, CPow, hat, hbig', hlog2, h2]
      · omega
    · obtain ⟨es, h6, h7⟩ := h5
      exact ⟨es, by rw [h6, List.set_set], h7⟩
  · have hsm : cell < 10 ^ 18 := by omega
    let c' := (c * 48271 + cell * 69621 + (a + 1) * 613).fmod 2147483647
    let mixed := (c' * c' + c' * 7919 + 104729).fmod 1000000007
    have hc0 : 0 ≤ c' := by
      show 0 ≤ Int.fmod _ _
      rw [Int.fmod_eq_emod_of_nonneg _ (by decide)]; exact Int.emod_nonneg _ (by decide)
    have hc1 : c' < 2147483647 := by
      show Int.fmod _ _ < _
      rw [Int.fmod_eq_emod_of_nonneg _ (by decide)]; exact Int.emod_lt_of_pos _ (by decide)
    refine ⟨(mixed.fdiv 3).fmod n, M.set l (some [.lst (cells.map .int), .int (a + 1), .int 0, .int c']), ?_, ?_, ?_, ⟨_, rfl, ⟨cells, _, _, _, rfl, hc, by omega, by omega, hc0, hc1⟩⟩⟩
    · unfold m__law_take
      have q1 : CMulG c 48271 := .inr (.inr (by decide))
      have q2 : CMulG cell 69621 := .inr (.inr (by decide))
      have q3 : CMulG (a + 1) 613 := .inr (.inr (by decide))
      have q4 : CMulG c' c' := .inr (.inl (by omega))
      have q5 : CMulG c' 7919 := .inr (.inr (by decide))
      have q6 : CDivG mixed 3 := ⟨by decide, by decide⟩
      have ec : (c * 48271 + cell * 69621 + (a + 1) * 613).fmod 2147483647 = c' := rfl
      have hbig' : ¬ (1000000000000000000 : Int) ≤ cell := hbig
      have em : (c' * c' + c' * 7919 + 104729).fmod 1000000007 = mixed := rfl
      rcases hat with ⟨hlt, hat⟩ | ⟨hlt, hat⟩
      · simp [startD, seqOf_loc hm, hm, hset, seqOf_loc (hset _), ixN, hn0, hlt, CPow, hat, hbig', q1, q2, q3, ec, q4, q5, em, q6]
      · subst hat
        simp only [Int.zero_mul, Int.add_zero] at *
        simp [startD, seqOf_loc hm, hm, hset, seqOf_loc (hset _), ixN, hn0, hlt, CPow, hbig', q1, q2, q3, ec, q4, q5, em, q6]
    · rw [Int.fmod_eq_emod_of_nonneg _ (by omega)]; exact Int.emod_nonneg _ (by omega)
    · rw [Int.fmod_eq_emod_of_nonneg _ (by omega)]; exact Int.emod_lt_of_pos _ hn
/-- picking from a row -/
theorem pick_spec {l : Nat} {M : Mem} {ds : List D} (hp : PoolAt l M) (h0 : ds ≠ []) (hn : ds.length < 2 ^ 64) : ∃ d M', c__law_pick [.loc l, .lst ds] M = .ok d M' ∧ d ∈ ds ∧ PStep l M M' := by
  have hpos : 0 < ds.length := List.length_pos_iff.mpr h0
  obtain ⟨i, M', h1, h2, h3, h4⟩ := take_spec hp (n := (ds.length : Int)) (by omega) (by omega) 0
  have hj : i.toNat < ds.length := by omega
  refine ⟨ds[i.toNat], M', ?_, List.getElem_mem hj, h4⟩
  have h1 : c__law_take 2 [.loc l, .int ds.length] M = .ok (.int i) M' := h1
  have ha : atI ds i = some ds[i.toNat] := atI_of h2 (List.getElem?_eq_getElem hj)
  unfold c__law_pick m__law_pick
  simp [startD, h1, ha]
/-- the pool at the law's start -/
theorem pool_spec (ns : List Int) (hn : ns.length ≤ 63) : ∃ M, c__law_pool [.scr ns] [] = .ok (.loc 0) M ∧ PoolAt 0 M := by
  let f : Int → Int := fun x => if x ≥ 0 then 2 * x else -2 * x - 1
  have h : ∀ v, lcL [] (mName 1) mYes (eIf (asB (eBin false oGe (eVar 1) (eC (.int 0)))) (eBin false oMul (eC (.int 2)) (eVar 1)) (eBin false oSub (eBin false oMul (eUn false oNeg (eC (.int 2))) (eVar 1)) (eC (.int 1)))) (ns.map .int) [some (.scr ns), v] [] = .ok (ns.map fun x => D.int (f x)) [] := fun v => 
    lcL_all (by simp) ns fun x hx => ⟨[some (.scr ns), some (.int x)], by simp, by
        have q1 : CMulG 2 x := .inr (.inl (by decide))
        have q2 : CMulG (-2) x := .inr (.inl (by decide))
        by_cases hx : 0 ≤ x <;> simp [hx, q1, q2, f]⟩
  refine ⟨[some [.lst ((ns.map f).map .int), .int 0, .int 0, .int 17]], ?_, _, by simp [memAt], ns.map f, 0, 0, 17, rfl, ?_, by decide, by decide, by decide, by decide⟩
  · unfold c__law_pool m__law_pool
    have hz : ns.length ≤ 16777216 := by omega
    simp [startD, hz, wipeD, h]
  · intro x hx
    obtain ⟨y, _, rfl⟩ := List.mem_map.mp hx
    show 0 ≤ if y ≥ 0 then 2 * y else -2 * y - 1
    split <;> omega
/-- trees that are no place -/
def Pl : Nat → D → Prop
  | 0, _ => False
  | k + 1, .tup ds => ds.length ≤ 16777216 ∧ ∀ d ∈ ds, Pl k d
  | k + 1, .lst ds => ds.length ≤ 16777216 ∧ ∀ d ∈ ds, Pl k d
  | _ + 1, .non => True
  | _ + 1, .bl _ => True
  | _ + 1, .int _ => True
  | _ + 1, .str _ => True
  | _ + 1, _ => False
theorem all_true : ∀ n : Nat, (List.replicate n true).all id = true
  | 0 => rfl
  | n + 1 => by simp
theorem same_seq {k : Nat} {ds : List D} {M : Mem} {d : D} (hd : d = .tup ds ∨ d = .lst ds) (hl : ds.length ≤ 16777216) (hs : ∀ x ∈ ds, c__law_same k [x, x] M = .ok (.bl true) M) :
    ∃ ys : List Bool, lcL [] (mName 2) mYes (eCall 2 (c__law_same k) (aCons (eBin false oIx (eVar 0) (eVar 2)) (aCons (eBin false oIx (eVar 1) (eVar 2)) aNil))) (rangeD 0 ds.length) [some d, some d, none] M = .ok (ys.map .bl) M ∧ ys.all id = true := by
  refine ⟨List.replicate ds.length true, ?_, all_true _⟩
  have := lcL_all (src := []) (g := mName 2) (e := eCall 2 (c__law_same k) (aCons (eBin false oIx (eVar 0) (eVar 2)) (aCons (eBin false oIx (eVar 1) (eVar 2)) aNil))) (enc := fun (i : Nat) => D.int (0 + (i : Int))) (v := fun _ => D.bl true) (τ := [some d, some d, none]) (M := M) (by simp) (List.range ds.length) fun i hi => ?_
  · rw [rangeD_eq, this]; simp [List.map_const']
  · have hi : i < ds.length := by simpa using hi
    have ha : atI ds (i : Int) = some ds[i] := atI_nat (List.getElem?_eq_getElem hi)
    have hsi := hs ds[i] (List.getElem_mem hi)
    refine ⟨[some d, some d, some (.int i)], by simp, ?_⟩
    rcases hd with rfl | rfl <;> simp [ha, hsi]
theorem intsOf_bls (ys : List Bool) : blsOf (ys.map .bl) = some ys := by
  induction ys with
  | nil => rfl
  | cons y ys ih => simp [ih]
/-- like is like -/
theorem same_step {M : Mem} {k : Nat} (ih : ∀ d, Pl k d → c__law_same k [d, d] M = .ok (.bl true) M) {d : D} (h : Pl (k + 1) d) : endK M (m__law_same (c__law_same k) (startD N__law_same [d, d]) M) = .ok (.bl true) M := by
    unfold m__law_same
    cases d with
    | tup ds =>
      obtain ⟨ys, e, ha⟩ := same_seq (M := M) (.inl rfl) h.1 fun x hx => ih x (h.2 x hx)
      have hl := h.1
      have hl2 := rngOk_nat (n := ds.length) (by omega)
      simp [startD, wipeD, e, intsOf_bls, ha, hl, hl2, isTy]
    | lst ds => 
      obtain ⟨ys, e, ha⟩ := same_seq (M := M) (.inr rfl) h.1 fun x hx => ih x (h.2 x hx)
      have hl := h.1
      have hl2 := rngOk_nat (n := ds.length) (by omega)
      simp [startD, wipeD, e, intsOf_bls, ha, hl, hl2, isTy]
    | non => simp [startD, isTy]
    | bl b => simp [startD, isTy]
    | int i => simp [startD, isTy]
    | str x => simp [startD, isTy]
    | _ => exact h.elim
theorem same_spec (M : Mem) (k : Nat) : ∀ (d : D), Pl k d → c__law_same k [d, d] M = .ok (.bl true) M := by
  induction k with
  | zero => exact fun _ h => h.elim
  | succ k ih => exact fun d h => same_step ih h
/-- powers -/
theorem power_loop {b : Int} (hb : b.natAbs < 2 ^ 64) (x1 : Option D) (n : Nat) (M : Mem) (t : Option D) : ∃ t', forL [] (mName 3) (sSet 2 (eBin false oMul (eVar 2) (eVar 0))) (rangeD 0 n) [some (.int b), x1, some (.int 1), t] M = .nx [some (.int b), x1, some (.int (b ^ n)), t'] M := by
  obtain ⟨τ', M', e, rfl, t', rfl⟩ := forL_range (g := mName 3) (b := sSet 2 (eBin false oMul (eVar 2) (eVar 0))) (lo := 0) (n := n)
    (R := fun i τ M1 => M1 = M ∧ ∃ t, τ = [some (.int b), x1, some (.int (b ^ i)), t])
    (fun i τ M1 hi hR => by
      obtain ⟨rfl, t, rfl⟩ := hR
      have hq : ∀ x, CMulG x b := fun x => cmul_r hb
      exact ⟨[some (.int b), x1, some (.int (b ^ i)), some (.int i)], M1, [some (.int b), x1, some (.int (b ^ (i + 1))), some (.int i)], M1, by simp, .inl (by simp [hq, Int.pow_succ]), rfl, _, rfl⟩)
    (τ := [some (.int b), x1, some (.int 1), t]) (M := M) ⟨rfl, _, by simp; rfl⟩
  exact ⟨t', e⟩
theorem power_spec {b : Int} {n : Nat} (hb : b.natAbs < 2 ^ 64) (hn : n < 2 ^ 62) (M : Mem) : c_power [.int b, .int n] M = .ok (.int (b ^ n)) M := by
  obtain ⟨t', e⟩ := power_loop hb (some (.int n)) n M none
  have := rngOk_nat hn
  unfold c_power m_power
  simp [startD, this, e]
theorem lawPower_spec {b : Int} {n : Nat} (hb : b.natAbs < 2 ^ 64) (hn : n < 2 ^ 62) (M : Mem) : c__law_power [.int b, .int n] M = .ok (.int (b ^ n)) M := by
  obtain ⟨t', e⟩ := power_loop hb (some (.int n)) n M none
  have := rngOk_nat hn
  unfold c__law_power m__law_power
  simp [startD, this, e]
end Sh

namespace K45
open PySem PySem.Spec PyProof.Rows L2 DM
abbrev N_primes_in : List Str := ["number", "left", "found", "by"]
abbrev N_parted : List Str := ["number", "p", "often"]
abbrev N_often_in : List Str := ["number", "p"]
abbrev N_fraction : List Str := ["n", "d", "common"]
abbrev N_sum_of : List Str := ["one", "other"]
abbrev N_times_of : List Str := ["one", "other"]
abbrev N_told_whole : List Str := ["number", "least"]
abbrev N_discriminant_of : List Str := ["number", "found", "p"]
abbrev N_discriminant : List Str := ["number"]
abbrev N_squares_row : List Str := ["p", "found", "number"]
abbrev N_periods_of : List Str := ["d", "odd", "left", "p"]
abbrev N_power_sums : List Str := ["d", "most", "rows", "found", "a", "sign", "row", "part", "j"]
abbrev N_bernoulli_of : List Str := ["k", "d", "f", "found", "j", "total", "part"]
abbrev N_bernoulli_number : List Str := ["k", "d"]
abbrev N__law_common : List Str := ["one", "other", "turn"]
abbrev N__law_root : List Str := ["number", "low", "high", "turn", "middle"]
abbrev N__law_fraction_of : List Str := ["n", "d", "shared", "sign"]
abbrev N__law_plus : List Str := ["one", "other"]
abbrev N__law_times : List Str := ["one", "other"]
abbrev N__law_often : List Str := ["number", "p", "found", "turn"]
abbrev N__law_power_modulo : List Str := ["base", "many", "q", "found", "by", "turn"]
abbrev N__law_sign : List Str := ["number", "p"]
abbrev N__law_primes_in : List Str := ["number", "left", "found", "p", "turn", "step"]
abbrev N__law_discriminant : List Str := ["number", "found", "p"]
abbrev N__law_character : List Str := ["d", "a", "found", "p", "sign", "turn"]
abbrev N__law_polynomial : List Str := ["k", "row", "j", "mean", "i"]
abbrev N__law_bernoulli : List Str := ["k", "d", "row", "f", "found", "a", "sign", "value", "part"]
abbrev N__law_class_number : List Str := ["d", "found", "a", "b", "top", "c"]
abbrev N__law_fault : List Str := ["word", "one", "two", "wrong"]
abbrev N__law_refuses : List Str := ["pool", "odd", "wrong"]
abbrev N__law_known : List Str := ["pool", "k", "d", "due"]
abbrev N_law : List Str := ["script", "pool", "turn", "number", "k", "d"]
def is_BadNumber : String → Option Bool := fun s => match s with | "BadNumber" => some true | "FormError" => some false | "TooGreat" => some false | _ => none
def is_FormError : String → Option Bool := fun s => match s with | "BadNumber" => some true | "FormError" => some true | "TooGreat" => some true | _ => none
def is_TooGreat : String → Option Bool := fun s => match s with | "BadNumber" => some false | "FormError" => some false | "TooGreat" => some true | _ => none
def exNames : List String := ["BadNumber", "FormError", "TooGreat"]
theorem mem_is_BadNumber {s : String} {b : Bool} (h : is_BadNumber s = some b) : s ∈ exNames := by
  unfold is_BadNumber at h
  split at h <;> first | (simp [exNames]; done) | cases h
theorem mem_is_FormError {s : String} {b : Bool} (h : is_FormError s = some b) : s ∈ exNames := by
  unfold is_FormError at h
  split at h <;> first | (simp [exNames]; done) | cases h
theorem mem_is_TooGreat {s : String} {b : Bool} (h : is_TooGreat s = some b) : s ∈ exNames := by
  unfold is_TooGreat at h
  split at h <;> first | (simp [exNames]; done) | cases h
abbrev k_MOST_GIVEN : D := .int (1000000000)
abbrev k_MOST_PERIOD : D := .int (400000)
abbrev k_MOST_WHOLE : D := .int (1000000000000000000000000000000000000000000000000000000000000)
abbrev k_NUMBERS : D := .kt (([[1, 1], [-1, 2], [1, 6], [0, 1], [-1, 30], [0, 1], [1, 42], [0, 1], [-1, 30]] : List (List Int)).map fun r => .kt (r.map .int))
def rows_EIGHTHS : List (Int × D) := ([(1, [1, 1, 1, 1, 1, 1, 1, 1]), (-4, [0, 1, 0, -1, 0, 1, 0, -1]), (8, [0, 1, 0, -1, 0, -1, 0, 1]), (-8, [0, 1, 0, 1, 0, -1, 0, -1])] : List (Int × List Int)).map fun r => (r.1, .kt (r.2.map .int))
/-! ### what the code does, on data -/
noncomputable def m_primes_in : SM := (sSeq (sSet 1 (eArgs false oAbs (aCons (eVar 0) aNil))) (sSeq (sSet 2 (eArgs true oLst aNil)) (sSeq (sSet 3 (eC (.int 2))) (sSeq (sWhile (asB (eBin false oLe (eBin false oMul (eVar 3) (eVar 3)) (eVar 1))) (sSeq (sIf (asB (eBin false oEq (eBin false oMod (eVar 1) (eVar 3)) (eC (.int 0)))) (sSeq (sExpr (eMt oAppend (eVar 2) (aCons (eVar 3) aNil))) (sWhile (asB (eBin false oEq (eBin false oMod (eVar 1) (eVar 3)) (eC (.int 0)))) (sSet 1 (eBin false oDiv (eVar 1) (eVar 3))))) sNil) (sSet 3 (eBin false oAdd (eBin false oAdd (eVar 3) (eC (.int 1))) (eBin false oMod (eVar 3) (eC (.int 2))))))) (sSeq (sIf (asB (eBin false oGt (eVar 1) (eC (.int 1)))) (sExpr (eMt oAppend (eVar 2) (aCons (eVar 1) aNil))) sNil) (sRet (eVar 2)))))))
noncomputable def c_primes_in : FM := fun ds M => endT M (m_primes_in (startD N_primes_in ds) M)
noncomputable def m_parted : SM := (sSeq (sSet 2 (eC (.int 0))) (sSeq (sWhile (asB (eBin false oEq (eBin false oMod (eVar 0) (eVar 1)) (eC (.int 0)))) (sSeq (sSet 0 (eBin false oDiv (eVar 0) (eVar 1))) (sSet 2 (eBin false oAdd (eVar 2) (eC (.int 1)))))) (sRet (eArgs false oTup (aCons (eVar 2) (aCons (eVar 0) aNil))))))
noncomputable def c_parted : FM := fun ds M => endK M (m_parted (startD N_parted ds) M)
noncomputable def m_often_in : SM := (sRet (eBin false oIx (eCall 2 (c_parted) (aCons (eVar 0) (aCons (eVar 1) aNil))) (eC (.int 0))))
noncomputable def c_often_in : FM := fun ds M => endK M (m_often_in (startD N_often_in ds) M)
noncomputable def m_fraction : SM := (sSeq (sSet 2 (eArgs false oGcd (aCons (eVar 0) (aCons (eVar 1) aNil)))) (sSeq (sIf (asB (eBin false oLt (eVar 1) (eC (.int 0)))) (sSet 2 (eUn false oNeg (eVar 2))) sNil) (sRet (eArgs false oTup (aCons (eBin false oDiv (eVar 0) (eVar 2)) (aCons (eBin false oDiv (eVar 1) (eVar 2)) aNil))))))
noncomputable def c_fraction : FM := fun ds M => endK M (m_fraction (startD N_fraction ds) M)
noncomputable def m_sum_of : SM := (sRet (eCall 2 (c_fraction) (aCons (eBin false oAdd (eBin false oMul (eBin false oIx (eVar 0) (eC (.int 0))) (eBin false oIx (eVar 1) (eC (.int 1)))) (eBin false oMul (eBin false oIx (eVar 1) (eC (.int 0))) (eBin false oIx (eVar 0) (eC (.int 1))))) (aCons (eBin false oMul (eBin false oIx (eVar 0) (eC (.int 1))) (eBin false oIx (eVar 1) (eC (.int 1)))) aNil))))
noncomputable def c_sum_of : FM := fun ds M => endK M (m_sum_of (startD N_sum_of ds) M)
noncomputable def m_times_of : SM := (sRet (eCall 2 (c_fraction) (aCons (eBin false oMul (eBin false oIx (eVar 0) (eC (.int 0))) (eBin false oIx (eVar 1) (eC (.int 0)))) (aCons (eBin false oMul (eBin false oIx (eVar 0) (eC (.int 1))) (eBin false oIx (eVar 1) (eC (.int 1)))) aNil))))
noncomputable def c_times_of : FM := fun ds M => endK M (m_times_of (startD N_times_of ds) M)
noncomputable def m_told_whole : SM := (sSeq (sIf (mOr (mNot (asT (eCall 1 (Sh.c_is_whole) (aCons (eVar 0) aNil)))) (mOr (asB (eBin false oGe (eArgs false oAbs (aCons (eVar 0) aNil)) (eC k_MOST_WHOLE))) (mIf (asB (eBin false oIs (eVar 1) (eC .non))) (asB (eBin false oEq (eVar 0) (eC (.int 0)))) (asB (eBin false oLt (eVar 0) (eVar 1)))))) (sRaise "BadNumber") sNil) (sRet (eVar 0)))
noncomputable def c_told_whole : FM := fun ds M => endK M (m_told_whole (startD N_told_whole ds) M)
noncomputable def m_discriminant_of : SM := (sSeq (sSet 1 (eIf (asB (eBin false oGt (eVar 0) (eC (.int 0)))) (eC (.int 1)) (eUn false oNeg (eC (.int 1))))) (sSeq (sFor (iSeq (eCall 1 (c_primes_in) (aCons (eVar 0) aNil))) (mName 2) (sIf (asB (eBin false oEq (eBin false oMod (eCall 2 (c_often_in) (aCons (eVar 0) (aCons (eVar 2) aNil))) (eC (.int 2))) (eC (.int 1)))) (sSet 1 (eBin false oMul (eVar 1) (eVar 2))) sNil)) (sRet (eIf (asB (eBin false oEq (eBin false oMod (eVar 1) (eC (.int 4))) (eC (.int 1)))) (eVar 1) (eBin false oMul (eC (.int 4)) (eVar 1))))))
noncomputable def c_discriminant_of : FM := fun ds M => endK M (m_discriminant_of (startD N_discriminant_of ds) M)
noncomputable def m_discriminant : SM := (sSeq (sExpr (eCall 2 (c_told_whole) (aCons (eVar 0) (aCons (eC .non) aNil)))) (sSeq (sIf (asB (eBin false oGt (eArgs false oAbs (aCons (eVar 0) aNil)) (eC k_MOST_GIVEN))) (sRaise "TooGreat") sNil) (sRet (eCall 1 (c_discriminant_of) (aCons (eVar 0) aNil)))))
noncomputable def c_discriminant : FM := fun ds M => endK M (m_discriminant (startD N_discriminant ds) M)
noncomputable def m_squares_row : SM := (sSeq (sSet 1 (eBin true oMul (eArgs false oLst (aCons (eUn false oNeg (eC (.int 1))) aNil)) (eVar 0))) (sSeq (sFor (iRange2 (aCons (eC (.int 1)) (aCons (eVar 0) aNil))) (mName 2) (sAsg (eC (.int 1)) (mSub (eVar 1) (eBin false oMod (eBin false oMul (eVar 2) (eVar 2)) (eVar 0))))) (sSeq (sAsg (eC (.int 0)) (mSub (eVar 1) (eC (.int 0)))) (sRet (eVar 1)))))
noncomputable def c_squares_row : FM := fun ds M => endT M (m_squares_row (startD N_squares_row ds) M)
noncomputable def m_periods_of : SM := (sSeq (sSet 1 (eLc false (iSeq (eCall 1 (c_primes_in) (aCons (eVar 0) aNil))) (mName 3) (asB (eBin false oNe (eVar 3) (eC (.int 2)))) (eVar 3) [3])) (sSeq (sSet 2 (eVar 0)) (sSeq (sFor (iSeq (eVar 1)) (mName 3) (sSet 2 (eBin false oDiv (eVar 2) (eIf (asB (eBin false oEq (eBin false oMod (eVar 3) (eC (.int 4))) (eC (.int 1)))) (eVar 3) (eUn false oNeg (eVar 3)))))) (sRet (eBin false oAdd (eArgs false oLst (aCons (eKd rows_EIGHTHS (eVar 2)) aNil)) (eLc false (iSeq (eVar 1)) (mName 3) mYes (eCall 1 (c_squares_row) (aCons (eVar 3) aNil)) [3]))))))
noncomputable def c_periods_of : FM := fun ds M => endK M (m_periods_of (startD N_periods_of ds) M)
noncomputable def m_power_sums : SM := (sSeq (sSet 2 (eCall 1 (c_periods_of) (aCons (eVar 0) aNil))) (sSeq (sSet 3 (eBin true oMul (eArgs false oLst (aCons (eC (.int 0)) aNil)) (eBin false oAdd (eVar 1) (eC (.int 1))))) (sSeq (sFor (iRange2 (aCons (eC (.int 1)) (aCons (eBin false oAdd (eArgs false oAbs (aCons (eVar 0) aNil)) (eC (.int 1))) aNil))) (mName 4) (sSeq (sSet 5 (eC (.int 1))) (sSeq (sFor (iSeq (eVar 2)) (mName 6) (sSet 5 (eBin false oMul (eVar 5) (eBin false oIx (eVar 6) (eBin false oMod (eVar 4) (eArgs false oLen (aCons (eVar 6) aNil))))))) (sIf (asT (eVar 5)) (sSeq (sSet 7 (eVar 5)) (sFor (iRange1 (aCons (eBin false oAdd (eVar 1) (eC (.int 1))) aNil)) (mName 8) (sSeq (sAsg (eBin false oAdd (eBin false oIx (eVar 3) (eVar 8)) (eVar 7)) (mSub (eVar 3) (eVar 8))) (sSet 7 (eBin false oMul (eVar 7) (eVar 4)))))) sNil)))) (sRet (eVar 3)))))
noncomputable def c_power_sums : FM := fun ds M => endT M (m_power_sums (startD N_power_sums ds) M)
noncomputable def m_bernoulli_of : SM := (sSeq (sSet 2 (eArgs false oAbs (aCons (eVar 1) aNil))) (sSeq (sSet 3 (eArgs false oTup (aCons (eC (.int 0)) (aCons (eC (.int 1)) aNil)))) (sSeq (sFor (iEnumD (aCons (eCall 2 (c_power_sums) (aCons (eVar 1) (aCons (eVar 0) aNil))) aNil)) (mTup 2 (mCons (mName 4) (mCons (mName 5) mNil))) (sSeq (sSet 6 (eCall 2 (c_fraction) (aCons (eBin false oMul (eBin false oMul (eArgs false oComb (aCons (eVar 0) (aCons (eVar 4) aNil))) (eVar 5)) (eCall 2 (Sh.c_power) (aCons (eVar 2) (aCons (eBin false oSub (eVar 0) (eC (.int 1))) aNil)))) (aCons (eCall 2 (Sh.c_power) (aCons (eVar 2) (aCons (eVar 4) aNil))) aNil)))) (sSet 3 (eCall 2 (c_sum_of) (aCons (eVar 3) (aCons (eCall 2 (c_times_of) (aCons (eVar 6) (aCons (eBin false oIx (eC k_NUMBERS) (eBin false oSub (eVar 0) (eVar 4))) aNil))) aNil)))))) (sRet (eVar 3)))))
noncomputable def c_bernoulli_of : FM := fun ds M => endK M (m_bernoulli_of (startD N_bernoulli_of ds) M)
noncomputable def m_bernoulli_number : SM := (sSeq (sIf (mOr (mNot (asT (eCall 1 (Sh.c_is_whole) (aCons (eVar 0) aNil)))) (mNot (asB (eChain oLe oLe (eC (.int 1)) (eVar 0) (eC (.int 8)))))) (sRaise "BadNumber") sNil) (sSeq (sExpr (eCall 2 (c_told_whole) (aCons (eVar 1) (aCons (eC .non) aNil)))) (sSeq (sIf (asB (eBin false oGt (eArgs false oAbs (aCons (eVar 1) aNil)) (eC k_MOST_PERIOD))) (sRaise "TooGreat") sNil) (sSeq (sIf (asB (eBin false oNe (eCall 1 (c_discriminant_of) (aCons (eVar 1) aNil)) (eVar 1))) (sRaise "BadNumber") sNil) (sRet (eCall 2 (c_bernoulli_of) (aCons (eVar 0) (aCons (eVar 1) aNil))))))))
noncomputable def c_bernoulli_number : FM := fun ds M => endK M (m_bernoulli_number (startD N_bernoulli_number ds) M)
noncomputable def m__law_common : SM := (sSeq (sPar 0 1 (aCons (eArgs false oAbs (aCons (eVar 0) aNil)) (aCons (eArgs false oAbs (aCons (eVar 1) aNil)) aNil))) (sSeq (sFor (iRange1 (aCons (eC (.int 20000)) aNil)) (mName 2) (sSeq (sIf (asB (eBin false oEq (eVar 1) (eC (.int 0)))) sBreak sNil) (sPar 0 1 (aCons (eVar 1) (aCons (eBin false oSub (eVar 0) (eBin false oMul (eVar 1) (eArgs false oInt (aCons (eBin false oDiv (eVar 0) (eVar 1)) aNil)))) aNil))))) (sRet (eVar 0))))
noncomputable def c__law_common : FM := fun ds M => endK M (m__law_common (startD N__law_common ds) M)
noncomputable def m__law_root : SM := (sSeq (sAsg (eArgs false oTup (aCons (eC (.int 0)) (aCons (eC (.int 1)) aNil))) (mTup 2 (mCons (mName 1) (mCons (mName 2) mNil)))) (sSeq (sFor (iRange1 (aCons (eC (.int 4000)) aNil)) (mName 3) (sSeq (sIf (asB (eBin false oGt (eBin false oMul (eVar 2) (eVar 2)) (eVar 0))) sBreak sNil) (sSet 2 (eBin false oMul (eC (.int 2)) (eVar 2))))) (sSeq (sFor (iRange1 (aCons (eC (.int 4000)) aNil)) (mName 3) (sSeq (sIf (asB (eBin false oLt (eBin false oSub (eVar 2) (eVar 1)) (eC (.int 2)))) sBreak sNil) (sSeq (sSet 4 (eArgs false oInt (aCons (eBin false oDiv (eBin false oAdd (eVar 1) (eVar 2)) (eC (.int 2))) aNil))) (sIf (asB (eBin false oGt (eBin false oMul (eVar 4) (eVar 4)) (eVar 0))) (sSet 2 (eVar 4)) (sSet 1 (eVar 4)))))) (sRet (eVar 1)))))
noncomputable def c__law_root : FM := fun ds M => endK M (m__law_root (startD N__law_root ds) M)
noncomputable def m__law_fraction_of : SM := (sSeq (sSet 2 (eCall 2 (c__law_common) (aCons (eVar 0) (aCons (eVar 1) aNil)))) (sSeq (sSet 3 (eIf (asB (eBin false oLt (eVar 1) (eC (.int 0)))) (eUn false oNeg (eC (.int 1))) (eC (.int 1)))) (sRet (eArgs false oTup (aCons (eBin false oMul (eVar 3) (eArgs false oInt (aCons (eBin false oDiv (eVar 0) (eVar 2)) aNil))) (aCons (eBin false oMul (eVar 3) (eArgs false oInt (aCons (eBin false oDiv (eVar 1) (eVar 2)) aNil))) aNil))))))
noncomputable def c__law_fraction_of : FM := fun ds M => endK M (m__law_fraction_of (startD N__law_fraction_of ds) M)
noncomputable def m__law_plus : SM := (sRet (eCall 2 (c__law_fraction_of) (aCons (eBin false oAdd (eBin false oMul (eBin false oIx (eVar 0) (eC (.int 0))) (eBin false oIx (eVar 1) (eC (.int 1)))) (eBin false oMul (eBin false oIx (eVar 1) (eC (.int 0))) (eBin false oIx (eVar 0) (eC (.int 1))))) (aCons (eBin false oMul (eBin false oIx (eVar 0) (eC (.int 1))) (eBin false oIx (eVar 1) (eC (.int 1)))) aNil))))
noncomputable def c__law_plus : FM := fun ds M => endK M (m__law_plus (startD N__law_plus ds) M)
noncomputable def m__law_times : SM := (sRet (eCall 2 (c__law_fraction_of) (aCons (eBin false oMul (eBin false oIx (eVar 0) (eC (.int 0))) (eBin false oIx (eVar 1) (eC (.int 0)))) (aCons (eBin false oMul (eBin false oIx (eVar 0) (eC (.int 1))) (eBin false oIx (eVar 1) (eC (.int 1)))) aNil))))
noncomputable def c__law_times : FM := fun ds M => endK M (m__law_times (startD N__law_times ds) M)
noncomputable def m__law_often : SM := (sSeq (sSet 2 (eC (.int 0))) (sSeq (sFor (iRange1 (aCons (eC (.int 4000)) aNil)) (mName 3) (sSeq (sIf (asB (eBin false oNe (eBin false oMod (eArgs false oInt (aCons (eVar 0) aNil)) (eVar 1)) (eC (.int 0)))) sBreak sNil) (sPar 0 2 (aCons (eArgs false oInt (aCons (eBin false oDiv (eVar 0) (eVar 1)) aNil)) (aCons (eBin false oAdd (eVar 2) (eC (.int 1))) aNil))))) (sRet (eVar 2))))
noncomputable def c__law_often : FM := fun ds M => endK M (m__law_often (startD N__law_often ds) M)
noncomputable def m__law_power_modulo : SM := (sSeq (sPar 3 4 (aCons (eC (.int 1)) (aCons (eBin false oMod (eArgs false oInt (aCons (eVar 0) aNil)) (eVar 2)) aNil))) (sSeq (sFor (iRange1 (aCons (eC (.int 4000)) aNil)) (mName 5) (sSeq (sIf (asB (eBin false oEq (eVar 1) (eC (.int 0)))) sBreak sNil) (sSeq (sIf (asB (eBin false oEq (eBin false oMod (eArgs false oInt (aCons (eVar 1) aNil)) (eC (.int 2))) (eC (.int 1)))) (sSet 3 (eBin false oMod (eArgs false oInt (aCons (eBin false oMul (eVar 3) (eVar 4)) aNil)) (eVar 2))) sNil) (sSeq (sSet 4 (eBin false oMod (eArgs false oInt (aCons (eBin false oMul (eVar 4) (eVar 4)) aNil)) (eVar 2))) (sSet 1 (eArgs false oInt (aCons (eBin false oDiv (eVar 1) (eC (.int 2))) aNil))))))) (sRet (eVar 3))))
noncomputable def c__law_power_modulo : FM := fun ds M => endK M (m__law_power_modulo (startD N__law_power_modulo ds) M)
noncomputable def m__law_sign : SM := (sRet (eIf (asB (eBin false oEq (eCall 3 (c__law_power_modulo) (aCons (eVar 0) (aCons (eArgs false oInt (aCons (eBin false oDiv (eBin false oSub (eVar 1) (eC (.int 1))) (eC (.int 2))) aNil)) (aCons (eVar 1) aNil)))) (eC (.int 1)))) (eC (.int 1)) (eUn false oNeg (eC (.int 1)))))
noncomputable def c__law_sign : FM := fun ds M => endK M (m__law_sign (startD N__law_sign ds) M)
noncomputable def m__law_primes_in : SM := (sSeq (sPar3 1 2 3 (aCons (eArgs false oAbs (aCons (eVar 0) aNil)) (aCons (eArgs true oLst aNil) (aCons (eC (.int 2)) aNil)))) (sSeq (sFor (iRange1 (aCons (eC (.int 100000)) aNil)) (mName 4) (sSeq (sIf (asB (eBin false oGt (eBin false oMul (eVar 3) (eVar 3)) (eVar 1))) sBreak sNil) (sSeq (sIf (asB (eBin false oEq (eBin false oMod (eArgs false oInt (aCons (eVar 1) aNil)) (eVar 3)) (eC (.int 0)))) (sSeq (sExpr (eMt oAppend (eVar 2) (aCons (eVar 3) aNil))) (sFor (iRange1 (aCons (eC (.int 4000)) aNil)) (mName 5) (sSeq (sIf (asB (eBin false oNe (eBin false oMod (eArgs false oInt (aCons (eVar 1) aNil)) (eVar 3)) (eC (.int 0)))) sBreak sNil) (sSet 1 (eArgs false oInt (aCons (eBin false oDiv (eVar 1) (eVar 3)) aNil)))))) sNil) (sSet 3 (eBin false oAdd (eVar 3) (eC (.int 1))))))) (sRet (eIf (asB (eBin false oGt (eVar 1) (eC (.int 1)))) (eBin false oAdd (eVar 2) (eArgs false oLst (aCons (eVar 1) aNil))) (eVar 2)))))
noncomputable def c__law_primes_in : FM := fun ds M => endT M (m__law_primes_in (startD N__law_primes_in ds) M)
noncomputable def m__law_discriminant : SM := (sSeq (sSet 1 (eIf (asB (eBin false oGt (eVar 0) (eC (.int 0)))) (eC (.int 1)) (eUn false oNeg (eC (.int 1))))) (sSeq (sFor (iSeq (eCall 1 (c__law_primes_in) (aCons (eVar 0) aNil))) (mName 2) (sIf (asB (eBin false oEq (eBin false oMod (eArgs false oInt (aCons (eCall 2 (c__law_often) (aCons (eVar 0) (aCons (eVar 2) aNil))) aNil)) (eC (.int 2))) (eC (.int 1)))) (sSet 1 (eBin false oMul (eVar 1) (eVar 2))) sNil)) (sRet (eIf (asB (eBin false oEq (eBin false oMod (eArgs false oInt (aCons (eVar 1) aNil)) (eC (.int 4))) (eC (.int 1)))) (eVar 1) (eBin false oMul (eC (.int 4)) (eVar 1))))))
noncomputable def c__law_discriminant : FM := fun ds M => endK M (m__law_discriminant (startD N__law_discriminant ds) M)
noncomputable def m__law_character : SM := (sSeq (sIf (asB (eBin false oGt (eCall 2 (c__law_common) (aCons (eVar 0) (aCons (eVar 1) aNil))) (eC (.int 1)))) (sRet (eC (.int 0))) sNil) (sSeq (sSet 2 (eC (.int 1))) (sSeq (sFor (iSeq (eCall 1 (c__law_primes_in) (aCons (eVar 1) aNil))) (mName 3) (sSeq (sSet 4 (eIf (asB (eBin false oEq (eVar 3) (eC (.int 2)))) (eIf (asB (eBin false oEq (eBin false oMod (eArgs false oInt (aCons (eVar 0) aNil)) (eC (.int 8))) (eC (.int 1)))) (eC (.int 1)) (eUn false oNeg (eC (.int 1)))) (eCall 2 (c__law_sign) (aCons (eVar 0) (aCons (eVar 3) aNil))))) (sFor (iRange1 (aCons (eCall 2 (c__law_often) (aCons (eVar 1) (aCons (eVar 3) aNil))) aNil)) (mName 5) (sSet 2 (eBin false oMul (eVar 2) (eVar 4)))))) (sRet (eVar 2)))))
noncomputable def c__law_character : FM := fun ds M => endK M (m__law_character (startD N__law_character ds) M)
noncomputable def m__law_polynomial : SM := (sSeq (sSet 1 (eArgs true oLst (aCons (eArgs false oTup (aCons (eC (.int 1)) (aCons (eC (.int 1)) aNil))) aNil))) (sSeq (sFor (iRange2 (aCons (eC (.int 1)) (aCons (eBin false oAdd (eVar 0) (eC (.int 1))) aNil))) (mName 2) (sSeq (sSet 1 (eBin true oAdd (eArgs false oLst (aCons (eArgs false oTup (aCons (eC (.int 0)) (aCons (eC (.int 1)) aNil))) aNil)) (eLc false (iRange1 (aCons (eVar 2) aNil)) (mName 4) mYes (eCall 2 (c__law_times) (aCons (eBin false oIx (eVar 1) (eVar 4)) (aCons (eArgs false oTup (aCons (eVar 2) (aCons (eBin false oAdd (eVar 4) (eC (.int 1))) aNil))) aNil))) [4]))) (sSeq (sSet 3 (eArgs false oTup (aCons (eC (.int 0)) (aCons (eC (.int 1)) aNil)))) (sSeq (sFor (iRange1 (aCons (eBin false oAdd (eVar 2) (eC (.int 1))) aNil)) (mName 4) (sSet 3 (eCall 2 (c__law_plus) (aCons (eVar 3) (aCons (eCall 2 (c__law_times) (aCons (eBin false oIx (eVar 1) (eVar 4)) (aCons (eArgs false oTup (aCons (eC (.int 1)) (aCons (eBin false oAdd (eVar 4) (eC (.int 1))) aNil))) aNil))) aNil))))) (sAsg (eCall 2 (c__law_times) (aCons (eVar 3) (aCons (eArgs false oTup (aCons (eUn false oNeg (eC (.int 1))) (aCons (eC (.int 1)) aNil))) aNil))) (mSub (eVar 1) (eC (.int 0)))))))) (sRet (eVar 1))))
noncomputable def c__law_polynomial : FM := fun ds M => endT M (m__law_polynomial (startD N__law_polynomial ds) M)
noncomputable def m__law_bernoulli : SM := (sSeq (sPar 2 3 (aCons (eCall 1 (c__law_polynomial) (aCons (eVar 0) aNil)) (aCons (eArgs false oAbs (aCons (eVar 1) aNil)) aNil))) (sSeq (sSet 4 (eArgs false oTup (aCons (eC (.int 0)) (aCons (eC (.int 1)) aNil)))) (sSeq (sFor (iRange2 (aCons (eC (.int 1)) (aCons (eBin false oAdd (eVar 3) (eC (.int 1))) aNil))) (mName 5) (sSeq (sSet 6 (eCall 2 (c__law_character) (aCons (eVar 1) (aCons (eVar 5) aNil)))) (sIf (asB (eBin false oNe (eVar 6) (eC (.int 0)))) (sSeq (sSet 7 (eArgs false oTup (aCons (eC (.int 0)) (aCons (eC (.int 1)) aNil)))) (sSeq (sFor (iSeq (eUn false oRev (eVar 2))) (mName 8) (sSet 7 (eCall 2 (c__law_plus) (aCons (eCall 2 (c__law_times) (aCons (eVar 7) (aCons (eArgs false oTup (aCons (eVar 5) (aCons (eVar 3) aNil))) aNil))) (aCons (eVar 8) aNil))))) (sSet 4 (eCall 2 (c__law_plus) (aCons (eVar 4) (aCons (eCall 2 (c__law_times) (aCons (eVar 7) (aCons (eArgs false oTup (aCons (eVar 6) (aCons (eC (.int 1)) aNil))) aNil))) aNil)))))) sNil))) (sRet (eCall 2 (c__law_times) (aCons (eVar 4) (aCons (eArgs false oTup (aCons (eCall 2 (Sh.c__law_power) (aCons (eVar 3) (aCons (eBin false oSub (eVar 0) (eC (.int 1))) aNil))) (aCons (eC (.int 1)) aNil))) aNil)))))))
noncomputable def c__law_bernoulli : FM := fun ds M => endK M (m__law_bernoulli (startD N__law_bernoulli ds) M)
noncomputable def m__law_class_number : SM := (sSeq (sSet 1 (eC (.int 0))) (sSeq (sFor (iRange2 (aCons (eC (.int 1)) (aCons (eBin false oAdd (eC (.int 1)) (eCall 1 (c__law_root) (aCons (eBin false oAdd (eArgs false oInt (aCons (eBin false oDiv (eUn false oNeg (eVar 0)) (eC (.int 3))) aNil)) (eC (.int 1))) aNil))) aNil))) (mName 2) (sFor (iRange2 (aCons (eBin false oSub (eC (.int 1)) (eVar 2)) (aCons (eBin false oAdd (eVar 2) (eC (.int 1))) aNil))) (mName 3) (sSeq (sSet 4 (eBin false oSub (eBin false oMul (eVar 3) (eVar 3)) (eVar 0))) (sIf (asB (eBin false oEq (eBin false oMod (eArgs false oInt (aCons (eVar 4) aNil)) (eBin false oMul (eC (.int 4)) (eVar 2))) (eC (.int 0)))) (sSeq (sSet 5 (eArgs false oInt (aCons (eBin false oDiv (eVar 4) (eBin false oMul (eC (.int 4)) (eVar 2))) aNil))) (sIf (mOr (asB (eBin false oGt (eVar 5) (eVar 2))) (mAnd (asB (eBin false oEq (eVar 5) (eVar 2))) (asB (eBin false oGe (eVar 3) (eC (.int 0)))))) (sSet 1 (eBin false oAdd (eVar 1) (eArgs false oInt (aCons (eBin false oEq (eCall 2 (c__law_common) (aCons (eCall 2 (c__law_common) (aCons (eVar 2) (aCons (eVar 3) aNil))) (aCons (eVar 5) aNil))) (eC (.int 1))) aNil)))) sNil)) sNil)))) (sRet (eVar 1))))
noncomputable def c__law_class_number : FM := fun ds M => endK M (m__law_class_number (startD N__law_class_number ds) M)
noncomputable def m__law_fault : SM := (sSeq (sTry (sIf (asB (eBin false oEq (eVar 0) (eC (.str "discriminant")))) (sExpr (eCall 1 (c_discriminant) (aCons (eVar 1) aNil))) (sExpr (eCall 2 (c_bernoulli_number) (aCons (eVar 1) (aCons (eVar 2) aNil))))) ({ tst := is_BadNumber, i := 3, s := (sRet (eArgs false oTup (aCons (eC (.str "number")) (aCons (eIsE is_FormError (eVar 3)) (aCons (eIsE is_TooGreat (eVar 3)) aNil))))) } :: [{ tst := is_TooGreat, i := 3, s := (sRet (eArgs false oTup (aCons (eC (.str "great")) (aCons (eIsE is_FormError (eVar 3)) (aCons (eIsE is_BadNumber (eVar 3)) aNil))))) }])) (sRet (eArgs false oTup (aCons (eC (.str "none")) aNil))))
noncomputable def c__law_fault : FM := fun ds M => endK M (m__law_fault (startD N__law_fault ds) M)
noncomputable def m__law_refuses : SM := (sSeq (sSet 1 (eCall 2 (Sh.c__law_pick) (aCons (eVar 0) (aCons (eArgs false oLst (aCons (eC .non) (aCons (eC (.bl true)) (aCons (eC (.str "1")) (aCons (eC (.int 0)) (aCons (eArgs false oTup (aCons (eC (.int 1)) aNil)) (aCons (eC .dic) aNil))))))) aNil)))) (sSeq (sIf (mNot (asT (eCall 2 (Sh.c__law_same 8) (aCons (eCall 3 (c__law_fault) (aCons (eC (.str "discriminant")) (aCons (eVar 1) (aCons (eC .non) aNil)))) (aCons (eArgs false oTup (aCons (eC (.str "number")) (aCons (eC (.bl true)) (aCons (eC (.bl false)) aNil)))) aNil))))) (sRet (eC (.bl false))) sNil) (sSeq (sIf (mNot (asT (eCall 2 (Sh.c__law_same 8) (aCons (eCall 3 (c__law_fault) (aCons (eC (.str "discriminant")) (aCons (eCall 2 (Sh.c__law_pick) (aCons (eVar 0) (aCons (eArgs false oLst (aCons (eBin false oAdd (eBin false oPow (eC (.int 10)) (eC (.int 9))) (eC (.int 1))) (aCons (eBin false oSub (eUn false oNeg (eBin false oPow (eC (.int 10)) (eC (.int 9)))) (eC (.int 1))) (aCons (eBin false oPow (eC (.int 10)) (eC (.int 30))) aNil)))) aNil))) (aCons (eC .non) aNil)))) (aCons (eArgs false oTup (aCons (eC (.str "great")) (aCons (eC (.bl true)) (aCons (eC (.bl false)) aNil)))) aNil))))) (sRet (eC (.bl false))) sNil) (sSeq (sIf (mNot (asT (eCall 2 (Sh.c__law_same 8) (aCons (eCall 3 (c__law_fault) (aCons (eC (.str "bernoulli")) (aCons (eCall 2 (Sh.c__law_pick) (aCons (eVar 0) (aCons (eArgs false oLst (aCons (eC (.int 0)) (aCons (eC (.int 9)) (aCons (eUn false oNeg (eC (.int 1))) (aCons (eC .non) (aCons (eC (.bl true)) (aCons (eC (.str "1")) aNil))))))) aNil))) (aCons (eC (.int 400001)) aNil)))) (aCons (eArgs false oTup (aCons (eC (.str "number")) (aCons (eC (.bl true)) (aCons (eC (.bl false)) aNil)))) aNil))))) (sRet (eC (.bl false))) sNil) (sSeq (sIf (mNot (asT (eCall 2 (Sh.c__law_same 8) (aCons (eCall 3 (c__law_fault) (aCons (eC (.str "bernoulli")) (aCons (eC (.int 2)) (aCons (eVar 1) aNil)))) (aCons (eArgs false oTup (aCons (eC (.str "number")) (aCons (eC (.bl true)) (aCons (eC (.bl false)) aNil)))) aNil))))) (sRet (eC (.bl false))) sNil) (sSeq (sIf (mNot (asT (eCall 2 (Sh.c__law_same 8) (aCons (eCall 3 (c__law_fault) (aCons (eC (.str "bernoulli")) (aCons (eC (.int 2)) (aCons (eCall 2 (Sh.c__law_pick) (aCons (eVar 0) (aCons (eArgs false oLst (aCons (eC (.int 400001)) (aCons (eUn false oNeg (eC (.int 400004))) (aCons (eBin false oPow (eC (.int 10)) (eC (.int 30))) (aCons (eC (.int 400002)) aNil))))) aNil))) aNil)))) (aCons (eArgs false oTup (aCons (eC (.str "great")) (aCons (eC (.bl true)) (aCons (eC (.bl false)) aNil)))) aNil))))) (sRet (eC (.bl false))) sNil) (sSeq (sSet 2 (eCall 2 (Sh.c__law_pick) (aCons (eVar 0) (aCons (eArgs false oLst (aCons (eC (.int 2)) (aCons (eC (.int 3)) (aCons (eC (.int 4)) (aCons (eC (.int 9)) (aCons (eC (.int 16)) (aCons (eC (.int 20)) (aCons (eUn false oNeg (eC (.int 1))) (aCons (eUn false oNeg (eC (.int 2))) (aCons (eUn false oNeg (eC (.int 5))) (aCons (eUn false oNeg (eC (.int 9))) (aCons (eUn false oNeg (eC (.int 12))) (aCons (eUn false oNeg (eC (.int 16))) (aCons (eC (.int 25)) (aCons (eC (.int 48)) (aCons (eC (.int 399999)) aNil)))))))))))))))) aNil)))) (sRet (eCall 2 (Sh.c__law_same 8) (aCons (eCall 3 (c__law_fault) (aCons (eC (.str "bernoulli")) (aCons (eBin false oAdd (eC (.int 1)) (eCall 2 (Sh.c__law_take 2) (aCons (eVar 0) (aCons (eC (.int 8)) aNil)))) (aCons (eVar 2) aNil)))) (aCons (eArgs false oTup (aCons (eC (.str "number")) (aCons (eC (.bl true)) (aCons (eC (.bl false)) aNil)))) aNil)))))))))))
noncomputable def c__law_refuses : FM := fun ds M => endK M (m__law_refuses (startD N__law_refuses ds) M)
noncomputable def m__law_known : SM := (sSeq (sAsg (eCall 2 (Sh.c__law_pick) (aCons (eVar 0) (aCons (eArgs false oLst (aCons (eArgs false oTup (aCons (eC (.int 2)) (aCons (eC (.int 1)) (aCons (eArgs false oTup (aCons (eC (.int 1)) (aCons (eC (.int 6)) aNil))) aNil)))) (aCons (eArgs false oTup (aCons (eC (.int 4)) (aCons (eC (.int 1)) (aCons (eArgs false oTup (aCons (eUn false oNeg (eC (.int 1))) (aCons (eC (.int 30)) aNil))) aNil)))) (aCons (eArgs false oTup (aCons (eC (.int 6)) (aCons (eC (.int 1)) (aCons (eArgs false oTup (aCons (eC (.int 1)) (aCons (eC (.int 42)) aNil))) aNil)))) (aCons (eArgs false oTup (aCons (eC (.int 8)) (aCons (eC (.int 1)) (aCons (eArgs false oTup (aCons (eUn false oNeg (eC (.int 1))) (aCons (eC (.int 30)) aNil))) aNil)))) (aCons (eArgs false oTup (aCons (eC (.int 1)) (aCons (eC (.int 1)) (aCons (eArgs false oTup (aCons (eC (.int 1)) (aCons (eC (.int 2)) aNil))) aNil)))) (aCons (eArgs false oTup (aCons (eC (.int 3)) (aCons (eC (.int 1)) (aCons (eArgs false oTup (aCons (eC (.int 0)) (aCons (eC (.int 1)) aNil))) aNil)))) (aCons (eArgs false oTup (aCons (eC (.int 1)) (aCons (eUn false oNeg (eC (.int 4))) (aCons (eArgs false oTup (aCons (eUn false oNeg (eC (.int 1))) (aCons (eC (.int 2)) aNil))) aNil)))) (aCons (eArgs false oTup (aCons (eC (.int 1)) (aCons (eUn false oNeg (eC (.int 3))) (aCons (eArgs false oTup (aCons (eUn false oNeg (eC (.int 1))) (aCons (eC (.int 3)) aNil))) aNil)))) (aCons (eArgs false oTup (aCons (eC (.int 2)) (aCons (eC (.int 5)) (aCons (eArgs false oTup (aCons (eC (.int 4)) (aCons (eC (.int 5)) aNil))) aNil)))) (aCons (eArgs false oTup (aCons (eC (.int 2)) (aCons (eC (.int 8)) (aCons (eArgs false oTup (aCons (eC (.int 2)) (aCons (eC (.int 1)) aNil))) aNil)))) (aCons (eArgs false oTup (aCons (eC (.int 2)) (aCons (eC (.int 12)) (aCons (eArgs false oTup (aCons (eC (.int 4)) (aCons (eC (.int 1)) aNil))) aNil)))) (aCons (eArgs false oTup (aCons (eC (.int 3)) (aCons (eUn false oNeg (eC (.int 4))) (aCons (eArgs false oTup (aCons (eC (.int 3)) (aCons (eC (.int 2)) aNil))) aNil)))) (aCons (eArgs false oTup (aCons (eC (.int 3)) (aCons (eUn false oNeg (eC (.int 3))) (aCons (eArgs false oTup (aCons (eC (.int 2)) (aCons (eC (.int 3)) aNil))) aNil)))) aNil)))))))))))))) aNil))) (mTup 3 (mCons (mName 1) (mCons (mName 2) (mCons (mName 3) mNil))))) (sSeq (sIf (mNot (asT (eCall 2 (Sh.c__law_same 8) (aCons (eCall 2 (c_bernoulli_number) (aCons (eVar 1) (aCons (eVar 2) aNil))) (aCons (eVar 3) aNil))))) (sRet (eC (.bl false))) sNil) (sSeq (sSet 2 (eCall 1 (c__law_discriminant) (aCons (eBin false oSub (eUn false oNeg (eC (.int 1))) (eCall 2 (Sh.c__law_take 2) (aCons (eVar 0) (aCons (eC (.int 400)) aNil)))) aNil))) (sSeq (sIf (mAnd (asB (eBin false oLt (eVar 2) (eUn false oNeg (eC (.int 4))))) (mNot (asT (eCall 2 (Sh.c__law_same 8) (aCons (eCall 2 (c_bernoulli_number) (aCons (eC (.int 1)) (aCons (eVar 2) aNil))) (aCons (eArgs false oTup (aCons (eUn false oNeg (eCall 1 (c__law_class_number) (aCons (eVar 2) aNil))) (aCons (eC (.int 1)) aNil))) aNil)))))) (sRet (eC (.bl false))) sNil) (sRet (eC (.bl true)))))))
noncomputable def c__law_known : FM := fun ds M => endK M (m__law_known (startD N__law_known ds) M)
noncomputable def m_law : SM := (sSeq (sSet 1 (eCall 1 (Sh.c__law_pool) (aCons (eVar 0) aNil))) (sSeq (sIf (mOr (mNot (asT (eCall 1 (c__law_refuses) (aCons (eVar 1) aNil)))) (mNot (asT (eCall 1 (c__law_known) (aCons (eVar 1) aNil))))) (sRet (eC (.bl false))) sNil) (sSeq (sFor (iRange1 (aCons (eC (.int 3)) aNil)) (mName 2) (sSeq (sSet 3 (eBin false oMul (eBin false oMul (eCall 2 (Sh.c__law_pick) (aCons (eVar 1) (aCons (eArgs false oLst (aCons (eC (.int 1)) (aCons (eUn false oNeg (eC (.int 1))) aNil))) aNil))) (eBin false oAdd (eC (.int 1)) (eCall 2 (Sh.c__law_take 2) (aCons (eVar 1) (aCons (eCall 2 (Sh.c__law_pick) (aCons (eVar 1) (aCons (eArgs false oLst (aCons (eC (.int 10)) (aCons (eC (.int 1000)) (aCons (eBin false oPow (eC (.int 10)) (eC (.int 6))) aNil)))) aNil))) aNil))))) (eCall 2 (Sh.c__law_pick) (aCons (eVar 1) (aCons (eArgs false oLst (aCons (eC (.int 1)) (aCons (eC (.int 4)) (aCons (eC (.int 9)) (aCons (eC (.int 49)) (aCons (eC (.int 8)) aNil)))))) aNil))))) (sIf (mNot (asT (eCall 2 (Sh.c__law_same 8) (aCons (eCall 1 (c_discriminant) (aCons (eVar 3) aNil)) (aCons (eCall 1 (c__law_discriminant) (aCons (eVar 3) aNil)) aNil))))) (sRet (eC (.bl false))) sNil))) (sSeq (sIf (mNot (asT (eCall 2 (Sh.c__law_same 8) (aCons (eBin false oNe (eCall 1 (c_discriminant) (aCons (eCall 2 (Sh.c__law_pick) (aCons (eVar 1) (aCons (eArgs false oLst (aCons (eBin false oPow (eC (.int 10)) (eC (.int 9))) (aCons (eUn false oNeg (eBin false oPow (eC (.int 10)) (eC (.int 9)))) (aCons (eC (.int 999999937)) (aCons (eUn false oNeg (eC (.int 999999937))) aNil))))) aNil))) aNil)) (eC (.int 0))) (aCons (eC (.bl true)) aNil))))) (sRet (eC (.bl false))) sNil) (sSeq (sSet 4 (eBin false oAdd (eC (.int 1)) (eCall 2 (Sh.c__law_take 2) (aCons (eVar 1) (aCons (eC (.int 8)) aNil))))) (sSeq (sSet 5 (eCall 1 (c__law_discriminant) (aCons (eBin false oMul (eCall 2 (Sh.c__law_pick) (aCons (eVar 1) (aCons (eArgs false oLst (aCons (eC (.int 1)) (aCons (eUn false oNeg (eC (.int 1))) aNil))) aNil))) (eBin false oAdd (eC (.int 1)) (eCall 2 (Sh.c__law_take 2) (aCons (eVar 1) (aCons (eC (.int 60)) aNil))))) aNil))) (sRet (eCall 2 (Sh.c__law_same 8) (aCons (eCall 2 (c_bernoulli_number) (aCons (eVar 4) (aCons (eVar 5) aNil))) (aCons (eCall 2 (c__law_bernoulli) (aCons (eVar 4) (aCons (eVar 5) aNil))) aNil))))))))))
noncomputable def c_law : FM := fun ds M => endK M (m_law (startD N_law ds) M)
end K45

namespace K45
open PySem PySem.Spec PyProof.Rows L2 DM Sh

/-! ### the greatest common divisor -/
def gcdMu (x : Nat × Nat) : Nat := if x.2 = 0 then 0 else Nat.log2 (x.1 * x.2) + 1 + (if x.1 < x.2 then 1 else 0)
theorem log2_double {n : Nat} (h : n ≠ 0) : (2 * n).log2 = n.log2 + 1 := by
  rw [Nat.log2_eq_iff (by omega)]
  have := Nat.log2_self_le h
  have := Nat.lt_log2_self (n := n)
  rw [Nat.pow_succ, Nat.pow_succ]
  omega
theorem log2_mono {a b : Nat} (h : a ≤ b) : a.log2 ≤ b.log2 := by
  by_cases ha : a = 0
  · subst ha; simp
  · rw [Nat.le_log2 (by omega)]
    exact Nat.le_trans (Nat.log2_self_le ha) h
theorem log2_mul (a b : Nat) : (a * b).log2 ≤ a.log2 + b.log2 + 1 := by
  by_cases h : a * b = 0
  · rw [h]; simp
  · have := (Nat.log2_lt h (k := a.log2 + b.log2 + 2)).mpr (by
      have h1 := Nat.lt_log2_self (n := a)
      have h2 := Nat.lt_log2_self (n := b)
      calc a * b < 2 ^ (a.log2 + 1) * 2 ^ (b.log2 + 1) := Nat.mul_lt_mul'' h1 h2
        _ = 2 ^ (a.log2 + b.log2 + 2) := by rw [← Nat.pow_add]; congr 1; omega)
    omega
theorem log2_add (a b : Nat) : (a + b).log2 ≤ max a.log2 b.log2 + 1 := by
  by_cases h : a + b = 0
  · rw [h]; simp
  · have h1 := Nat.lt_log2_self (n := a)
    have h2 := Nat.lt_log2_self (n := b)
    have p1 : 2 ^ (a.log2 + 1) ≤ 2 ^ (max a.log2 b.log2 + 1) := Nat.pow_le_pow_right (by decide) (by omega)
    have p2 : 2 ^ (b.log2 + 1) ≤ 2 ^ (max a.log2 b.log2 + 1) := Nat.pow_le_pow_right (by decide) (by omega)
    have := (Nat.log2_lt h (k := max a.log2 b.log2 + 2)).mpr (by
      rw [Nat.pow_succ (n := 2) (m := max a.log2 b.log2 + 1)]
      omega)
    omega
theorem gcdMu_lt {x y : Nat} (h : y ≠ 0) : gcdMu (y, x % y) < gcdMu (x, y) := by
  unfold gcdMu
  have hr : x % y < y := Nat.mod_lt _ (Nat.pos_of_ne_zero h)
  simp only [h, if_false]
  by_cases hz : x % y = 0
  · simp only [hz, if_true]
    omega
  · simp only [hz, if_false]
    have h1 : ¬ y < x % y := by omega
    simp only [h1, if_false]
    by_cases hxy : x < y
    · simp only [hxy, if_true]
      rw [Nat.mod_eq_of_lt hxy, Nat.mul_comm]
      omega
    · simp only [hxy, if_false]
      have h2 : 2 * (y * (x % y)) ≤ x * y := by
        have e := Nat.div_add_mod x y
        have q : 1 ≤ x / y := (Nat.one_le_div_iff (Nat.pos_of_ne_zero h)).mpr (by omega)
        have : y * 1 ≤ y * (x / y) := Nat.mul_le_mul_left y q
        have : 2 * (x % y) ≤ x := by omega
        calc 2 * (y * (x % y)) = (2 * (x % y)) * y := by rw [Nat.mul_comm y, Nat.mul_assoc]
          _ ≤ x * y := Nat.mul_le_mul_right y this
      have h3 : y * (x % y) ≠ 0 := Nat.mul_ne_zero h hz
      have := log2_mono h2
      rw [log2_double h3] at this
      omega
theorem gcdMu_small (x y : Nat) : gcdMu (x, y) ≤ x.log2 + y.log2 + 3 := by
  unfold gcdMu
  have := log2_mul x y
  split
  · omega
  · simp only []
    split <;> omega
theorem common_loop {a b : Int} (ha : a.natAbs.log2 < 9000) (hb : b.natAbs.log2 < 9000) (M : Mem) (ds : List D) (hds : 19000 < ds.length) :
    ∃ t1 t2, forL [] (mName 2) (sSeq (sIf (asB (eBin false oEq (eVar 1) (eC (.int 0)))) sBreak sNil) (sPar 0 1 (aCons (eVar 1) (aCons (eBin false oSub (eVar 0) (eBin false oMul (eVar 1) (eArgs false oInt (aCons (eBin false oDiv (eVar 0) (eVar 1)) aNil)))) aNil)))) ds
      [some (.int a.natAbs), some (.int b.natAbs), none] M = .nx [some (.int (Nat.gcd a.natAbs b.natAbs : Nat)), t1, t2] M := by
  obtain ⟨τ', M', e, rfl, t1, t2, rfl⟩ := forL_mu (g := mName 2)
    (b := sSeq (sIf (asB (eBin false oEq (eVar 1) (eC (.int 0)))) sBreak sNil) (sPar 0 1 (aCons (eVar 1) (aCons (eBin false oSub (eVar 0) (eBin false oMul (eVar 1) (eArgs false oInt (aCons (eBin false oDiv (eVar 0) (eVar 1)) aNil)))) aNil))))
    (R := fun (x : Nat × Nat) τ M1 => ∃ t, τ = [some (.int x.1), some (.int x.2), t] ∧ M1 = M ∧ Nat.gcd x.1 x.2 = Nat.gcd a.natAbs b.natAbs ∧ x.1.log2 < 9000 ∧ x.2.log2 < 9000)
    (F := fun τ M1 => M1 = M ∧ ∃ t1 t2, τ = [some (.int (Nat.gcd a.natAbs b.natAbs : Nat)), t1, t2]) gcdMu
    (fun x d τ M1 hR => by
      obtain ⟨x, y⟩ := x
      obtain ⟨t, rfl, rfl, hg, hx, hy⟩ := hR
      dsimp only at hg hx hy
      refine ⟨[some (.int x), some (.int y), some d], M1, by simp, ?_⟩
      by_cases hy0 : y = 0
      · subst hy0
        refine .inl ⟨[some (.int x), some (.int 0), some d], M1, by simp, rfl, some (.int 0), some d, ?_⟩
        simp at hg
        rw [hg]
      · refine .inr ⟨(y, x % y), [some (.int y), some (.int (x % y : Nat)), some d], M1, ?_, ⟨some d, rfl, rfl, ?_, hy, Nat.lt_of_le_of_lt (log2_mono (Nat.mod_le _ _)) hx⟩, gcdMu_lt hy0⟩
        · have h1 : CDivG (x : Int) (y : Int) := ⟨by omega, by simpa using hy⟩
          have h2 : CMulG (y : Int) ((x : Int) / (y : Int)) := by
            refine .inl ?_
            have : ((x : Int) / (y : Int)).natAbs = x / y := by
              rw [← Int.natCast_ediv, Int.natAbs_natCast]
            rw [this, Int.natAbs_natCast]
            have := log2_mono (Nat.div_le_self x y)
            omega
          have h3 : (y : Int) ≠ 0 := by omega
          simp [h1, h2, hy0, fdiv_pos]
          have := Int.emod_def (x : Int) (y : Int)
          rw [← this]
        · rw [← hg, Nat.gcd_comm x y, Nat.gcd_rec y x]
          exact Nat.gcd_comm _ _)
    ds (a.natAbs, b.natAbs) [some (.int a.natAbs), some (.int b.natAbs), none] M ⟨none, rfl, rfl, rfl, ha, hb⟩ (by
      have := gcdMu_small a.natAbs b.natAbs
      omega)
  exact ⟨t1, t2, e⟩
/-- the law's own common divisor -/
theorem common_spec {a b : Int} (ha : a.natAbs.log2 < 9000) (hb : b.natAbs.log2 < 9000) (M : Mem) : c__law_common [.int a, .int b] M = .ok (.int (Nat.gcd a.natAbs b.natAbs : Nat)) M := by
  obtain ⟨t1, t2, e⟩ := common_loop ha hb M (rangeD 0 20000) (by rw [rangeD_len]; decide)
  have q : ∀ i : Int, (if i < 0 then -i else i) = (i.natAbs : Int) := fun i => by split <;> omega
  unfold c__law_common m__law_common
  simp only [sFor, sSeq]
  simp [startD, q, e]
end K45

namespace K45
open PySem PySem.Spec PyProof.Rows L2 DM Sh
/-- a fraction as a pair -/
def encQ (q : Rat) : D := .tup [.int q.num, .int q.den]
theorem exact_fdiv {a g : Int} (hg : g ≠ 0) (h : g ∣ a) : a.fdiv g = a / g := by
  obtain ⟨c, rfl⟩ := h
  rw [Int.mul_fdiv_cancel_left _ hg, Int.mul_ediv_cancel_left _ hg]
theorem gcd_pos {n d : Int} (h : d ≠ 0) : Nat.gcd n.natAbs d.natAbs ≠ 0 := by
  intro e
  have := Nat.gcd_eq_zero_iff.mp e
  omega
theorem divInt_num {n d : Int} (h : d ≠ 0) : (Rat.divInt n d).num = d.sign * (n / (Nat.gcd n.natAbs d.natAbs : Nat)) := by
  rw [Rat.num_divInt]
  have e : d.gcd n = Nat.gcd n.natAbs d.natAbs := by rw [Int.gcd, Nat.gcd_comm]
  rw [e, Int.mul_ediv_assoc]
  have : ((Nat.gcd n.natAbs d.natAbs : Nat) : Int) ∣ (n.natAbs : Int) := Int.ofNat_dvd.mpr (Nat.gcd_dvd_left _ _)
  exact Int.dvd_natAbs.mp this
theorem divInt_den {n d : Int} (h : d ≠ 0) : ((Rat.divInt n d).den : Int) = d.sign * (d / (Nat.gcd n.natAbs d.natAbs : Nat)) := by
  rw [Rat.den_divInt, if_neg h]
  have e : d.gcd n = Nat.gcd n.natAbs d.natAbs := by rw [Int.gcd, Nat.gcd_comm]
  rw [e, ← Int.mul_ediv_assoc, Int.sign_mul_self]
  · rfl
  · have : ((Nat.gcd n.natAbs d.natAbs : Nat) : Int) ∣ (d.natAbs : Int) := Int.ofNat_dvd.mpr (Nat.gcd_dvd_right _ _)
    exact Int.dvd_natAbs.mp this
theorem gcd_dvd_l (n d : Int) : ((Nat.gcd n.natAbs d.natAbs : Nat) : Int) ∣ n := Int.dvd_natAbs.mp (Int.ofNat_dvd.mpr (Nat.gcd_dvd_left _ _))
theorem gcd_dvd_r (n d : Int) : ((Nat.gcd n.natAbs d.natAbs : Nat) : Int) ∣ d := Int.dvd_natAbs.mp (Int.ofNat_dvd.mpr (Nat.gcd_dvd_right _ _))
theorem gcd_log {n d : Int} (h : d ≠ 0) : (Nat.gcd n.natAbs d.natAbs).log2 ≤ d.natAbs.log2 := log2_mono (Nat.le_of_dvd (by omega) (Nat.gcd_dvd_right _ _))
/-- the program's fractions -/
theorem fraction_spec {n d : Int} (hd : d ≠ 0) (hs : d.natAbs.log2 < 9000) (M : Mem) : c_fraction [.int n, .int d] M = .ok (encQ (Rat.divInt n d)) M := by
  have hg := gcd_pos (n := n) hd
  have hl := gcd_log (n := n) hd
  have hn := gcd_dvd_l n d
  have hdd := gcd_dvd_r n d
  unfold encQ
  rw [divInt_num hd, divInt_den hd]
  generalize hG : Nat.gcd n.natAbs d.natAbs = g at *
  have hg' : (g : Int) ≠ 0 := by omega
  unfold c_fraction m_fraction
  by_cases hneg : d < 0
  · have hs' : d.sign = -1 := Int.sign_eq_neg_one_of_neg hneg
    have c1 : ∀ i, CDivG i (-(g : Int)) := fun i => ⟨by omega, by rw [Int.natAbs_neg, Int.natAbs_natCast]; omega⟩
    have q : ∀ a : Int, (g : Int) ∣ a → a.fdiv (-(g : Int)) = -(a / g) := fun a ha => by
      rw [exact_fdiv (by omega) (Int.neg_dvd.mpr ha), Int.ediv_neg]
    simp [startD, hG, hneg, c1, hs', q n hn, q d hdd]
  · have hs' : d.sign = 1 := Int.sign_eq_one_of_pos (by omega)
    have c1 : ∀ i, CDivG i (g : Int) := fun i => ⟨by omega, by rw [Int.natAbs_natCast]; omega⟩
    simp [startD, hG, hneg, c1, hs', exact_fdiv hg' hn, exact_fdiv hg' hdd]
/-- the law's fractions -/
theorem lawFraction_spec {n d : Int} (hd : d ≠ 0) (hn9 : n.natAbs.log2 < 9000) (hs : d.natAbs.log2 < 9000) (M : Mem) : c__law_fraction_of [.int n, .int d] M = .ok (encQ (Rat.divInt n d)) M := by
  have hg := gcd_pos (n := n) hd
  have hl := gcd_log (n := n) hd
  have hn := gcd_dvd_l n d
  have hdd := gcd_dvd_r n d
  have hc := common_spec hn9 hs M
  unfold encQ
  rw [divInt_num hd, divInt_den hd]
  generalize hG : Nat.gcd n.natAbs d.natAbs = g at *
  have hg' : (g : Int) ≠ 0 := by omega
  have c1 : ∀ i, CDivG i (g : Int) := fun i => ⟨by omega, by rw [Int.natAbs_natCast]; omega⟩
  unfold c__law_fraction_of m__law_fraction_of
  by_cases hneg : d < 0
  · have hs' : d.sign = -1 := Int.sign_eq_neg_one_of_neg hneg
    have c2 : ∀ i, CMulG (-1) i := fun i => cmul_l (by decide)
    simp [startD, hc, hneg, c1, c2, hs', exact_fdiv hg' hn, exact_fdiv hg' hdd]
  · have hs' : d.sign = 1 := Int.sign_eq_one_of_pos (by omega)
    have c2 : ∀ i, CMulG 1 i := fun i => cmul_l (by decide)
    simp [startD, hc, hneg, c1, c2, hs', exact_fdiv hg' hn, exact_fdiv hg' hdd]
/-! pairs that need not be in least terms -/
def pair (a b : Int) : D := .tup [.int a, .int b]
theorem lg_mul {a b : Int} : (a * b).natAbs.log2 ≤ a.natAbs.log2 + b.natAbs.log2 + 1 := by rw [Int.natAbs_mul]; exact log2_mul _ _
theorem lg_add {a b : Int} : (a + b).natAbs.log2 ≤ max a.natAbs.log2 b.natAbs.log2 + 1 := Nat.le_trans (log2_mono (Int.natAbs_add_le a b)) (log2_add _ _)
theorem cmul_lg {a b : Int} (ha : a.natAbs.log2 < 9000) (hb : b.natAbs.log2 < 9000) : CMulG a b := .inl (by omega)
structure Lg (k : Nat) (a b : Int) : Prop where
  b0 : b ≠ 0
  la : a.natAbs.log2 ≤ k
  lb : b.natAbs.log2 ≤ k
theorem sum_spec {a b c d : Int} {k : Nat} (h1 : Lg k a b) (h2 : Lg k c d) (hk : k < 4000) (M : Mem) : c_sum_of [pair a b, pair c d] M = .ok (encQ (Rat.divInt a b + Rat.divInt c d)) M := by
  obtain ⟨b0, la, lb⟩ := h1
  obtain ⟨d0, lc, ld⟩ := h2
  rw [Rat.divInt_add_divInt _ _ b0 d0]
  have q1 : CMulG a d := cmul_lg (by omega) (by omega)
  have q2 : CMulG c b := cmul_lg (by omega) (by omega)
  have q3 : CMulG b d := cmul_lg (by omega) (by omega)
  have l1 := lg_mul (a := b) (b := d)
  have := fraction_spec (n := a * d + c * b) (d := b * d) (Int.mul_ne_zero b0 d0) (by omega) M
  unfold c_sum_of m_sum_of
  simp [startD, pair, q1, q2, q3, this]
theorem times_spec {a b c d : Int} {k : Nat} (h1 : Lg k a b) (h2 : Lg k c d) (hk : k < 4000) (M : Mem) : c_times_of [pair a b, pair c d] M = .ok (encQ (Rat.divInt a b * Rat.divInt c d)) M := by
  obtain ⟨b0, la, lb⟩ := h1
  obtain ⟨d0, lc, ld⟩ := h2
  rw [Rat.divInt_mul_divInt]
  have q1 : CMulG a c := cmul_lg (by omega) (by omega)
  have q3 : CMulG b d := cmul_lg (by omega) (by omega)
  have l1 := lg_mul (a := b) (b := d)
  have := fraction_spec (n := a * c) (d := b * d) (Int.mul_ne_zero b0 d0) (by omega) M
  unfold c_times_of m_times_of
  simp [startD, pair, q1, q3, this]
theorem plus_spec {a b c d : Int} {k : Nat} (h1 : Lg k a b) (h2 : Lg k c d) (hk : k < 4000) (M : Mem) : c__law_plus [pair a b, pair c d] M = .ok (encQ (Rat.divInt a b + Rat.divInt c d)) M := by
  obtain ⟨b0, la, lb⟩ := h1
  obtain ⟨d0, lc, ld⟩ := h2
  rw [Rat.divInt_add_divInt _ _ b0 d0]
  have q1 : CMulG a d := cmul_lg (by omega) (by omega)
  have q2 : CMulG c b := cmul_lg (by omega) (by omega)
  have q3 : CMulG b d := cmul_lg (by omega) (by omega)
  have l1 := lg_mul (a := b) (b := d)
  have l2 := lg_mul (a := a) (b := d)
  have l3 := lg_mul (a := c) (b := b)
  have l4 := lg_add (a := a * d) (b := c * b)
  have := lawFraction_spec (n := a * d + c * b) (d := b * d) (Int.mul_ne_zero b0 d0) (by omega) (by omega) M
  unfold c__law_plus m__law_plus
  simp [startD, pair, q1, q2, q3, this]
theorem ltimes_spec {a b c d : Int} {k : Nat} (h1 : Lg k a b) (h2 : Lg k c d) (hk : k < 4000) (M : Mem) : c__law_times [pair a b, pair c d] M = .ok (encQ (Rat.divInt a b * Rat.divInt c d)) M := by
  obtain ⟨b0, la, lb⟩ := h1
  obtain ⟨d0, lc, ld⟩ := h2
  rw [Rat.divInt_mul_divInt]
  have q1 : CMulG a c := cmul_lg (by omega) (by omega)
  have q3 : CMulG b d := cmul_lg (by omega) (by omega)
  have l1 := lg_mul (a := b) (b := d)
  have l2 := lg_mul (a := a) (b := c)
  have := lawFraction_spec (n := a * c) (d := b * d) (Int.mul_ne_zero b0 d0) (by omega) (by omega) M
  unfold c__law_times m__law_times
  simp [startD, pair, q1, q3, this]
/-- bounds of a fraction in least terms -/
structure Sm (k : Nat) (q : Rat) : Prop where
  n : q.num.natAbs.log2 ≤ k
  d : q.den.log2 ≤ k
theorem encQ_pair (q : Rat) : encQ q = pair q.num q.den := rfl
theorem divInt_self' (q : Rat) : Rat.divInt q.num (q.den : Int) = q := Rat.num_divInt_den q
theorem Sm.lg {k : Nat} {q : Rat} (h : Sm k q) : Lg k q.num (q.den : Int) := ⟨by have := q.den_nz; omega, h.n, by rw [Int.natAbs_natCast]; exact h.d⟩
theorem Sm.mono {k j : Nat} {q : Rat} (h : Sm k q) (e : k ≤ j) : Sm j q := ⟨Nat.le_trans h.n e, Nat.le_trans h.d e⟩
theorem Lg.mono {k j : Nat} {a b : Int} (h : Lg k a b) (e : k ≤ j) : Lg j a b := ⟨h.b0, Nat.le_trans h.la e, Nat.le_trans h.lb e⟩
theorem sm_divInt {k : Nat} {n d : Int} (h : Lg k n d) : Sm k (Rat.divInt n d) := by
  obtain ⟨d0, hn, hd⟩ := h
  have e : d.gcd n = Nat.gcd n.natAbs d.natAbs := by rw [Int.gcd, Nat.gcd_comm]
  constructor
  · rw [divInt_num d0, Int.natAbs_mul, Int.natAbs_sign_of_ne_zero d0, Nat.one_mul]
    have : (n / ((Nat.gcd n.natAbs d.natAbs : Nat) : Int)).natAbs ≤ n.natAbs := Int.natAbs_ediv_le_natAbs _ _
    exact Nat.le_trans (log2_mono this) hn
  · rw [Rat.den_divInt, if_neg d0]
    exact Nat.le_trans (log2_mono (Nat.div_le_self _ _)) hd
theorem Sm.add {j k : Nat} {q r : Rat} (h1 : Sm j q) (h2 : Sm k r) : Sm (j + k + 2) (q + r) := by
  have g1 := h1.lg
  have g2 := h2.lg
  rw [← divInt_self' q, ← divInt_self' r, Rat.divInt_add_divInt _ _ g1.b0 g2.b0]
  have l1 := lg_mul (a := q.num) (b := r.den)
  have l2 := lg_mul (a := r.num) (b := q.den)
  have l3 := lg_mul (a := (q.den : Int)) (b := r.den)
  have l4 := lg_add (a := q.num * r.den) (b := r.num * q.den)
  have := g1.la; have := g1.lb; have := g2.la; have := g2.lb
  exact sm_divInt ⟨Int.mul_ne_zero g1.b0 g2.b0, by omega, by omega⟩
theorem Sm.mul {j k : Nat} {q r : Rat} (h1 : Sm j q) (h2 : Sm k r) : Sm (j + k + 1) (q * r) := by
  have g1 := h1.lg
  have g2 := h2.lg
  rw [← divInt_self' q, ← divInt_self' r, Rat.divInt_mul_divInt]
  have l1 := lg_mul (a := q.num) (b := r.num)
  have l3 := lg_mul (a := (q.den : Int)) (b := r.den)
  have := g1.la; have := g1.lb; have := g2.la; have := g2.lb
  exact sm_divInt ⟨Int.mul_ne_zero g1.b0 g2.b0, by omega, by omega⟩
end K45

/-! plain numbers: how often a prime goes in, the primes in a number -/
namespace NT
/-- (how often, rest) -/
def vpF : Nat → Nat → Nat → Nat × Nat
  | 0, _, n => (0, n)
  | k + 1, p, n => if n % p = 0 then ((vpF k p (n / p)).1 + 1, (vpF k p (n / p)).2) else (0, n)
theorem div_lt {n p : Nat} (hp : 2 ≤ p) (hn : 0 < n) : n / p < n := Nat.div_lt_self hn hp
theorem div_pos_of {n p : Nat} (hn : 0 < n) (h : n % p = 0) : 0 < n / p := by
  rcases Nat.eq_zero_or_pos p with hp | hp
  · subst hp
    rw [Nat.mod_zero] at h
    omega
  · exact Nat.div_pos (Nat.le_of_dvd hn (Nat.dvd_of_mod_eq_zero h)) hp
theorem vpF_stable {p : Nat} (hp : 2 ≤ p) : ∀ (k n : Nat), 0 < n → n ≤ k → vpF (k + 1) p n = vpF k p n
  | 0, n, h, hk => by omega
  | k + 1, n, h, hk => by
    unfold vpF
    by_cases e : n % p = 0
    · have := div_lt hp h
      rw [if_pos e, if_pos e, vpF_stable hp k (n / p) (div_pos_of h e) (by omega)]
    · rw [if_neg e, if_neg e]
theorem vpF_any {p : Nat} (hp : 2 ≤ p) {n : Nat} (h : 0 < n) : ∀ (j : Nat), vpF (n + j) p n = vpF n p n
  | 0 => rfl
  | j + 1 => by
    rw [← Nat.add_assoc, vpF_stable hp (n + j) n h (by omega)]
    exact vpF_any hp h j
def vp (p n : Nat) : Nat × Nat := vpF n p n
theorem vp_hit {p n : Nat} (hp : 2 ≤ p) (h : 0 < n) (e : n % p = 0) : vp p n = ((vp p (n / p)).1 + 1, (vp p (n / p)).2) := by
  unfold vp
  have h1 := div_lt hp h
  obtain ⟨m, rfl⟩ : ∃ m, n = m + 1 := ⟨n - 1, by omega⟩
  have h2 : vpF m p ((m + 1) / p) = vpF ((m + 1) / p) p ((m + 1) / p) := by
    have := vpF_any hp (div_pos_of h e) (m - (m + 1) / p)
    rwa [Nat.add_sub_cancel' (by omega)] at this
  rw [← h2]
  conv => lhs; unfold vpF
  rw [if_pos e]
theorem vp_miss {p n : Nat} (e : n % p ≠ 0) : vp p n = (0, n) := by
  unfold vp
  cases n with
  | zero => simp at e
  | succ n =>
    unfold vpF
    rw [if_neg e]
theorem vp_rest {p : Nat} (hp : 2 ≤ p) {n : Nat} (h : 0 < n) : (vp p n).2 ≤ n ∧ 0 < (vp p n).2 ∧ (vp p n).2 ∣ n ∧ (vp p n).2 % p ≠ 0 := by
  induction n using Nat.strongRecOn with
  | _ n ih =>
    by_cases e : n % p = 0
    · rw [vp_hit hp h e]
      have h1 := div_lt hp h
      obtain ⟨a, b, c, d⟩ := ih _ h1 (div_pos_of h e)
      exact ⟨Nat.le_trans a (Nat.le_of_lt h1), b, Nat.dvd_trans c (Nat.div_dvd_of_dvd (Nat.dvd_of_mod_eq_zero e)), d⟩
    · rw [vp_miss e]
      exact ⟨Nat.le_refl _, h, Nat.dvd_refl _, e⟩
theorem vp_le {p : Nat} (hp : 2 ≤ p) {n : Nat} (h : 0 < n) : (vp p n).1 ≤ n := by
  induction n using Nat.strongRecOn with
  | _ n ih =>
    by_cases e : n % p = 0
    · rw [vp_hit hp h e]
      have h1 := div_lt hp h
      have := ih _ h1 (div_pos_of h e)
      dsimp only
      omega
    · rw [vp_miss e]
      exact Nat.zero_le _
def tl (left : Nat) : List Nat := if 1 < left then [left] else []
def Tf : Nat → Nat → Nat → List Nat
  | 0, left, _ => tl left
  | k + 1, left, p => if left < p * p then tl left else if left % p = 0 then p :: Tf k (vp p left).2 (p + 1) else Tf k left (p + 1)
theorem Tf_stable : ∀ (k left p : Nat), 2 ≤ p → 0 < left → left < p + k → Tf (k + 1) left p = Tf k left p
  | 0, left, p, hp, h0, h => by
    have : left < p * p := Nat.lt_of_lt_of_le h (Nat.le_mul_self p)
    unfold Tf
    rw [if_pos this]
  | k + 1, left, p, hp, h0, h => by
    have h1 := vp_rest hp h0
    unfold Tf
    by_cases a : left < p * p
    · rw [if_pos a, if_pos a]
    · rw [if_neg a, if_neg a, Tf_stable k _ (p + 1) (by omega) h1.2.1 (by omega), Tf_stable k left (p + 1) (by omega) h0 (by omega)]
theorem Tf_any {left p : Nat} (hp : 2 ≤ p) (h0 : 0 < left) : ∀ (k j : Nat), left < p + k → Tf (k + j) left p = Tf k left p
  | k, 0, _ => rfl
  | k, j + 1, h => by
    rw [← Nat.add_assoc, Tf_stable (k + j) left p hp h0 (by omega)]
    exact Tf_any hp h0 k j h
def T (left p : Nat) : List Nat := Tf left left p
theorem T_of {left p k : Nat} (hp : 2 ≤ p) (h0 : 0 < left) (h : left < p + k) : Tf k left p = T left p := by
  unfold T
  have h1 := Tf_any hp h0 k left h
  have h2 := Tf_any hp h0 left k (by omega)
  rw [← h1, ← h2, Nat.add_comm]
theorem T_end {left p : Nat} (hp : 2 ≤ p) (h0 : 0 < left) (h : left < p * p) : T left p = tl left := by
  unfold T
  obtain ⟨m, rfl⟩ : ∃ m, left = m + 1 := ⟨left - 1, by omega⟩
  unfold Tf
  rw [if_pos h]
theorem T_hit {left p : Nat} (hp : 2 ≤ p) (h0 : 0 < left) (h : ¬ left < p * p) (e : left % p = 0) : T left p = p :: T (vp p left).2 (p + 1) := by
  have h1 := vp_rest hp h0
  conv => lhs; unfold T
  obtain ⟨m, rfl⟩ : ∃ m, left = m + 1 := ⟨left - 1, by omega⟩
  unfold Tf
  rw [if_neg h, if_pos e, T_of (by omega) h1.2.1 (by omega)]
theorem T_miss {left p : Nat} (hp : 2 ≤ p) (h0 : 0 < left) (h : ¬ left < p * p) (e : left % p ≠ 0) : T left p = T left (p + 1) := by
  conv => lhs; unfold T
  obtain ⟨m, rfl⟩ : ∃ m, left = m + 1 := ⟨left - 1, by omega⟩
  unfold Tf
  rw [if_neg h, if_neg e, T_of (by omega) h0 (by omega)]
/-- an even step is none where 2 is gone -/
theorem T_even {left p : Nat} (hp : 2 ≤ p) (h0 : 0 < left) (he : p % 2 = 0) (ho : left % 2 ≠ 0) : T left p = T left (p + 1) := by
  by_cases h : left < p * p
  · rw [T_end hp h0 h, T_end (by omega) h0 (Nat.lt_of_lt_of_le h (Nat.mul_le_mul (by omega) (by omega)))]
  · refine T_miss hp h0 h fun e => ho ?_
    exact Nat.mod_eq_zero_of_dvd (Nat.dvd_trans (Nat.dvd_of_mod_eq_zero he) (Nat.dvd_of_mod_eq_zero e))
theorem T_pos : ∀ (k left p : Nat), 2 ≤ p → 0 < left → ∀ x ∈ Tf k left p, 2 ≤ x ∧ x ≤ max left p
  | 0, left, p, hp, h0, x, hx => by
    unfold Tf tl at hx
    split at hx
    · simp at hx; omega
    · simp at hx
  | k + 1, left, p, hp, h0, x, hx => by
    have h1 := vp_rest hp h0
    unfold Tf at hx
    split at hx
    · unfold tl at hx
      split at hx
      · simp at hx; omega
      · simp at hx
    · rename_i hq
      have h2p : 2 * p ≤ p * p := Nat.mul_le_mul_right p hp
      split at hx
      · rcases List.mem_cons.mp hx with rfl | hx
        · omega
        · have := T_pos k _ (p + 1) (by omega) h1.2.1 x hx
          have h2 := h1.1
          omega
      · have := T_pos k left (p + 1) (by omega) h0 x hx
        omega
end NT

namespace K45
open PySem PySem.Spec PyProof.Rows L2 DM Sh NT
theorem cdiv_nat {i : Int} {p : Nat} (hp : 2 ≤ p) (h : p < 2 ^ 64) : CDivG i (p : Int) := ⟨by omega, by rw [Int.natAbs_natCast]; exact small_log h⟩
/-- exact division, by size -/
theorem div_abs {m : Int} {p : Nat} (h : m % (p : Int) = 0) : (m / (p : Int)).natAbs = m.natAbs / p := by
  obtain ⟨c, rfl⟩ := Int.dvd_of_emod_eq_zero h
  rcases Nat.eq_zero_or_pos p with z | z
  · subst z; simp
  · rw [Int.mul_ediv_cancel_left _ (by omega), Int.natAbs_mul, Int.natAbs_natCast, Nat.mul_div_cancel_left _ z]
theorem mod_abs {m : Int} {p : Nat} : m % (p : Int) = 0 ↔ m.natAbs % p = 0 := by
  constructor
  · intro h
    exact Nat.mod_eq_zero_of_dvd (Int.natCast_dvd_natCast.mp (Int.dvd_natAbs.mpr (Int.dvd_of_emod_eq_zero h)))
  · intro h
    exact Int.emod_eq_zero_of_dvd (Int.dvd_natAbs.mp (Int.natCast_dvd_natCast.mpr (Nat.dvd_of_mod_eq_zero h)))
/-- how often, by the program -/
theorem parted_spec {n : Int} {p : Nat} (hn : n ≠ 0) (hp : 2 ≤ p) (hp2 : p < 2 ^ 64) (M : Mem) : ∃ r : Int, c_parted [.int n, .int p] M = .ok (.tup [.int (vp p n.natAbs).1, .int r]) M := by
  obtain ⟨τ', M', e, rfl, r, rfl⟩ := sWhile_mu (c := asB (eBin false oEq (eBin false oMod (eVar 0) (eVar 1)) (eC (.int 0)))) (b := sSeq (sSet 0 (eBin false oDiv (eVar 0) (eVar 1))) (sSet 2 (eBin false oAdd (eVar 2) (eC (.int 1)))))
    (R := fun (x : Int × Nat) τ M1 => τ = [some (.int x.1), some (.int p), some (.int x.2)] ∧ M1 = M ∧ x.1 ≠ 0 ∧ x.2 + (vp p x.1.natAbs).1 = (vp p n.natAbs).1)
    (F := fun τ M1 => M1 = M ∧ ∃ r : Int, τ = [some (.int r), some (.int p), some (.int (vp p n.natAbs).1)]) (fun x => x.1.natAbs)
    (fun x τ M1 hR => by
      obtain ⟨m, o⟩ := x
      obtain ⟨rfl, rfl, h0, hv⟩ := hR
      dsimp only at h0 hv
      have hp0 : (p : Int) ≠ 0 := by omega
      have hp1 : ¬ p = 0 := by omega
      by_cases hm : m % (p : Int) = 0
      · have h1 := mod_abs.mp hm
        have h2 := vp_hit hp (by omega) h1
        refine .inr ⟨M1, (m / p, o + 1), [some (.int (m / p)), some (.int p), some (.int (o + 1 : Nat))], M1, by simp [hp1, fmod_pos, hm], by simp [hp1, cdiv_nat hp hp2, fdiv_pos], ⟨rfl, rfl, ?_, ?_⟩, ?_⟩
        · have := div_abs hm
          have := div_pos_of (by omega) h1
          dsimp only
          omega
        · dsimp only
          rw [div_abs hm]
          rw [h2] at hv
          dsimp only at hv
          omega
        · dsimp only
          rw [div_abs hm]
          exact div_lt hp (by omega)
      · have h1 : m.natAbs % p ≠ 0 := fun z => hm (mod_abs.mpr z)
        rw [vp_miss h1] at hv
        refine .inl ⟨M1, by simp [hp1, fmod_pos, hm], rfl, m, ?_⟩
        dsimp only at hv
        simp only [Nat.add_zero] at hv
        rw [hv])
    (n, 0) [some (.int n), some (.int p), some (.int 0)] M ⟨rfl, rfl, hn, by simp⟩
  refine ⟨r, ?_⟩
  unfold c_parted m_parted
  simp [startD, e]
theorem often_spec {n : Int} {p : Nat} (hn : n ≠ 0) (hp : 2 ≤ p) (hp2 : p < 2 ^ 64) (M : Mem) : c_often_in [.int n, .int p] M = .ok (.int (vp p n.natAbs).1) M := by
  obtain ⟨r, e⟩ := parted_spec hn hp hp2 M
  unfold c_often_in m_often_in
  simp [startD, e]
/-- how often, by the law -/
theorem lawOften_spec {n : Int} {p : Nat} (hn : n ≠ 0) (hn2 : n.natAbs < 2 ^ 64) (hp : 2 ≤ p) (hp2 : p < 2 ^ 64) (M : Mem) : c__law_often [.int n, .int p] M = .ok (.int (vp p n.natAbs).1) M := by
  obtain ⟨τ', M', e, rfl, r, t, rfl⟩ := forL_mu (g := mName 3) (b := sSeq (sIf (asB (eBin false oNe (eBin false oMod (eArgs false oInt (aCons (eVar 0) aNil)) (eVar 1)) (eC (.int 0)))) sBreak sNil) (sPar 0 2 (aCons (eArgs false oInt (aCons (eBin false oDiv (eVar 0) (eVar 1)) aNil)) (aCons (eBin false oAdd (eVar 2) (eC (.int 1))) aNil))))
    (R := fun (x : Int × Nat) τ M1 => (∃ t, τ = [some (.int x.1), some (.int p), some (.int x.2), t]) ∧ M1 = M ∧ x.1 ≠ 0 ∧ x.2 + (vp p x.1.natAbs).1 = (vp p n.natAbs).1)
    (F := fun τ M1 => M1 = M ∧ ∃ (r : Int) (t : Option D), τ = [some (.int r), some (.int p), some (.int (vp p n.natAbs).1), t]) (fun x => x.1.natAbs.log2)
    (fun x d τ M1 hR => by
      obtain ⟨m, o⟩ := x
      obtain ⟨⟨t, rfl⟩, rfl, h0, hv⟩ := hR
      dsimp only at h0 hv
      have hp1 : ¬ p = 0 := by omega
      refine ⟨[some (.int m), some (.int p), some (.int o), some d], M1, by simp, ?_⟩
      by_cases hm : m % (p : Int) = 0
      · have h1 := mod_abs.mp hm
        have h2 := vp_hit hp (by omega) h1
        refine .inr ⟨(m / p, o + 1), [some (.int (m / p)), some (.int p), some (.int (o + 1 : Nat)), some d], M1, by simp [hp1, fmod_pos, hm, cdiv_nat hp hp2, fdiv_pos], ⟨⟨_, rfl⟩, rfl, ?_, ?_⟩, ?_⟩
        · have := div_abs hm
          have := div_pos_of (by omega) h1
          dsimp only
          omega
        · dsimp only
          rw [div_abs hm]
          rw [h2] at hv
          dsimp only at hv
          omega
        · dsimp only
          rw [div_abs hm]
          have h3 := div_pos_of (by omega) h1
          have h4 : 2 * (m.natAbs / p) ≤ m.natAbs := Nat.le_trans (Nat.mul_le_mul_right _ hp) (Nat.mul_div_le _ _)
          have h5 := log2_mono h4
          rw [log2_double (by omega)] at h5
          omega
      · have h1 : m.natAbs % p ≠ 0 := fun z => hm (mod_abs.mpr z)
        rw [vp_miss h1] at hv
        dsimp only at hv
        simp only [Nat.add_zero] at hv
        refine .inl ⟨[some (.int m), some (.int p), some (.int o), some d], M1, by simp [hp1, fmod_pos, hm], rfl, m, some d, ?_⟩
        rw [hv])
    (rangeD 0 4000) (n, 0) [some (.int n), some (.int p), some (.int 0), none] M ⟨⟨_, rfl⟩, rfl, hn, by simp⟩ (by
      rw [rangeD_len]
      have := log2_lt (k := 64) (by decide) hn2
      dsimp only
      omega)
  unfold c__law_often m__law_often
  simp [startD, e]

/-! ### the primes -/
def natsD (ns : List Nat) : List D := (ns.map fun n : Nat => (n : Int)).map .int
theorem natsD_app (a b : List Nat) : natsD (a ++ b) = natsD a ++ natsD b := by simp [natsD]
theorem natsD_len (a : List Nat) : (natsD a).length = a.length := by simp [natsD]
theorem sq_lt {p n : Nat} (h : ¬ n < p * p) (hn : n < 2 ^ 33) : p < 92682 := by
  by_cases z : p < 92682
  · exact z
  · have : 92682 * 92682 ≤ p * p := Nat.mul_le_mul (by omega) (by omega)
    omega
theorem add_set_last (M : Mem) (x y : Option (List D)) : (M ++ [x]).set M.length y = M ++ [y] := by simp
/-- the inner loop of the program: a prime is taken out -/
theorem strip_spec {p left : Nat} (hp : 2 ≤ p) (hp2 : p < 2 ^ 64) (h0 : 0 < left) (a c : Option D) (M : Mem) :
    sWhile (asB (eBin false oEq (eBin false oMod (eVar 1) (eVar 3)) (eC (.int 0)))) (sSet 1 (eBin false oDiv (eVar 1) (eVar 3))) [a, some (.int left), c, some (.int p)] M = .nx [a, some (.int (vp p left).2), c, some (.int p)] M := by
  obtain ⟨τ', M', e, rfl, rfl⟩ := sWhile_mu (c := asB (eBin false oEq (eBin false oMod (eVar 1) (eVar 3)) (eC (.int 0)))) (b := sSet 1 (eBin false oDiv (eVar 1) (eVar 3)))
    (R := fun (m : Nat) τ M1 => τ = [a, some (.int m), c, some (.int p)] ∧ M1 = M ∧ 0 < m ∧ (vp p m).2 = (vp p left).2)
    (F := fun τ M1 => M1 = M ∧ τ = [a, some (.int (vp p left).2), c, some (.int p)]) (fun x => x)
    (fun m τ M1 hR => by
      obtain ⟨rfl, rfl, hm, hv⟩ := hR
      have hp1 : ¬ p = 0 := by omega
      have hi : (m : Int) % (p : Int) = 0 ↔ m % p = 0 := by omega
      by_cases hq : m % p = 0
      · have h2 := vp_hit hp hm hq
        exact .inr ⟨M1, m / p, [a, some (.int (m / p : Nat)), c, some (.int p)], M1, by simp [hp1, fmod_pos, hi, hq], by simp [cdiv_nat hp hp2, fdiv_pos], ⟨rfl, rfl, div_pos_of hm hq, by rw [← hv, h2]⟩, div_lt hp hm⟩
      · rw [vp_miss hq] at hv
        exact .inl ⟨M1, by simp [hp1, fmod_pos, hi, hq], rfl, by rw [← hv]⟩)
    left [a, some (.int left), c, some (.int p)] M ⟨rfl, rfl, h0, rfl⟩
  exact e
structure PInv (L : List Nat) (n : Nat) (left p : Nat) (acc : List Nat) : Prop where
  p2 : 2 ≤ p
  pb : p ≤ 92700
  pos : 0 < left
  le : left ≤ n
  len : acc.length ≤ p
  tot : acc ++ T left p = L
theorem primes_spec {n : Int} (hn : n ≠ 0) (hn2 : n.natAbs < 2 ^ 33) (M : Mem) : c_primes_in [.int n] M = .ok (.lst (natsD (T n.natAbs 2))) M := by
  obtain ⟨τ', M', e, left, by', acc, rfl, rfl, inv, hlt⟩ := sWhile_mu (c := asB (eBin false oLe (eBin false oMul (eVar 3) (eVar 3)) (eVar 1)))
    (b := sSeq (sIf (asB (eBin false oEq (eBin false oMod (eVar 1) (eVar 3)) (eC (.int 0)))) (sSeq (sExpr (eMt oAppend (eVar 2) (aCons (eVar 3) aNil))) (sWhile (asB (eBin false oEq (eBin false oMod (eVar 1) (eVar 3)) (eC (.int 0)))) (sSet 1 (eBin false oDiv (eVar 1) (eVar 3))))) sNil) (sSet 3 (eBin false oAdd (eBin false oAdd (eVar 3) (eC (.int 1))) (eBin false oMod (eVar 3) (eC (.int 2))))))
    (R := fun (x : Nat × Nat × List Nat) τ M1 => τ = [some (.int n), some (.int x.1), some (.loc M.length), some (.int x.2.1)] ∧ M1 = M ++ [some (natsD x.2.2)] ∧ PInv (T n.natAbs 2) n.natAbs x.1 x.2.1 x.2.2 ∧ (x.2.1 = 2 ∨ (x.2.1 % 2 = 1 ∧ x.1 % 2 = 1)))
    (F := fun τ M1 => ∃ left by' acc, τ = [some (.int n), some (.int (left : Nat)), some (.loc M.length), some (.int (by' : Nat))] ∧ M1 = M ++ [some (natsD acc)] ∧ PInv (T n.natAbs 2) n.natAbs left by' acc ∧ left < by' * by')
    (fun x => 2 ^ 33 - x.2.1)
    (fun x τ M1 hR => by
      obtain ⟨left, p, acc⟩ := x
      obtain ⟨rfl, rfl, inv, hodd⟩ := hR
      dsimp only at inv hodd
      have hp2 := inv.p2
      have hpb := inv.pb
      have hle := inv.le
      have hpos := inv.pos
      have hlen := inv.len
      have q1 : CMulG (p : Int) (p : Int) := cmul_l (by omega)
      by_cases hlt : left < p * p
      · refine .inl ⟨_, ?_, left, p, acc, rfl, rfl, inv, hlt⟩
        have : ¬ (p : Int) * p ≤ left := by omega
        simp [q1, this]
      · have hs := sq_lt hlt (by omega)
        have hge : (p : Int) * p ≤ left := by omega
        have hp1 : ¬ p = 0 := by omega
        have hi : (left : Int) % (p : Int) = 0 ↔ left % p = 0 := by omega
        have hstep : (p : Int) + 1 + (p : Int) % 2 = ((p + 1 + p % 2 : Nat) : Int) := by omega
        have hm2 : ((p : Int) % 2) = ((p % 2 : Nat) : Int) := by omega
        by_cases hq : left % p = 0
        · have hr := vp_rest hp2 hpos
          have e1 := strip_spec (p := p) (left := left) hp2 (by omega) hpos (some (.int n)) (some (.loc M.length)) (M ++ [some (natsD (acc ++ [p]))])
          have hT := T_hit hp2 hpos hlt hq
          have hodd' : (vp p left).2 % 2 = 1 := by
            rcases hodd with z | z
            · have := hr.2.2.2
              rw [z] at this ⊢
              omega
            · obtain ⟨c, hc⟩ := hr.2.2.1
              rcases Nat.mod_two_eq_zero_or_one (vp p left).2 with y | y
              · have : left % 2 = 0 := by rw [hc, Nat.mul_mod, y]; simp
                omega
              · exact y
          refine .inr ⟨M ++ [some (natsD acc)], ((vp p left).2, p + 1 + p % 2, acc ++ [p]), [some (.int n), some (.int (vp p left).2), some (.loc M.length), some (.int ((p : Int) + 1 + (p : Int) % 2))], M ++ [some (natsD (acc ++ [p]))], by simp [q1, hge], ?_, ⟨by rw [hstep], rfl, ⟨by dsimp only; omega, by dsimp only; omega, hr.2.1, by dsimp only; omega, by simp; omega, ?_⟩, .inr ⟨by dsimp only; omega, hodd'⟩⟩, by dsimp only; omega⟩
          · have : acc.length ≤ 16777215 := by omega
            have e2 : natsD acc ++ [D.int p] = natsD (acc ++ [p]) := by simp [natsD]
            have hz : (natsD acc).length < sizeLine := by rw [natsD_len]; show _ < 16777216; omega
            simp [hp1, fmod_pos, hi, hq, hz, e2, e1]
          · have ht := inv.tot
            rw [hT] at ht
            rw [← ht]
            rcases Nat.mod_two_eq_zero_or_one p with y | y
            · rw [y]; simp
            · rw [y]
              have := T_even (left := (vp p left).2) (p := p + 1) (by omega) hr.2.1 (by omega) (by omega)
              rw [this]; simp
        · refine .inr ⟨M ++ [some (natsD acc)], (left, p + 1 + p % 2, acc), [some (.int n), some (.int left), some (.loc M.length), some (.int ((p : Int) + 1 + (p : Int) % 2))], M ++ [some (natsD acc)], by simp [q1, hge], by simp [hp1, fmod_pos, hi, hq], ⟨by rw [hstep], rfl, ⟨by dsimp only; omega, by dsimp only; omega, hpos, hle, by dsimp only; omega, ?_⟩, ?_⟩, by dsimp only; omega⟩
          · have ht := inv.tot
            have hT := T_miss hp2 hpos hlt hq
            dsimp only at ht ⊢
            rw [← ht, hT]
            rcases Nat.mod_two_eq_zero_or_one p with y | y
            · rw [y]
            · rw [y]
              rcases hodd with z | z
              · omega
              · have := T_even (left := left) (p := p + 1) (by omega) hpos (by omega) (by omega)
                rw [this]
          · dsimp only
            rcases hodd with z | z
            · right
              refine ⟨by omega, ?_⟩
              rw [z] at hq
              omega
            · right
              exact ⟨by omega, z.2⟩)
    (n.natAbs, 2, []) [some (.int n), some (.int n.natAbs), some (.loc M.length), some (.int 2)] (M ++ [some []]) ⟨rfl, by simp [natsD], ⟨by dsimp only; omega, by dsimp only; omega, by dsimp only; omega, Nat.le_refl _, by simp, by simp⟩, .inl rfl⟩
  have q : ∀ i : Int, (if i < 0 then -i else i) = (i.natAbs : Int) := fun i => by split <;> omega
  have ht := inv.tot
  have hlen := inv.len
  have hpb := inv.pb
  rw [T_end inv.p2 inv.pos hlt] at ht
  have fin : endT M (.rt (.loc M.length) (M ++ [some (natsD (T n.natAbs 2))])) = .ok (.lst (natsD (T n.natAbs 2))) M := by
    refine trunc_app (fz_ints (is := (T n.natAbs 2).map fun n : Nat => (n : Int)) (Nat.le_refl _) ?_)
    simp [natsD]
  unfold c_primes_in m_primes_in
  simp only [sSeq, sSet]
  by_cases h1 : 1 < left
  · have h2 : (1 : Int) < (left : Int) := by omega
    have hz : (natsD acc).length < sizeLine := by rw [natsD_len]; show _ < 16777216; omega
    have e2 : natsD acc ++ [D.int left] = natsD (T n.natAbs 2) := by rw [← ht]; simp [natsD, tl, h1]
    simp [startD, q, e, h2, hz, e2, fin]
  · have h2 : ¬ (1 : Int) < (left : Int) := by omega
    have e2 : natsD acc = natsD (T n.natAbs 2) := by rw [← ht]; simp [tl, h1]
    simp [startD, q, e, h2, e2, fin]
end K45

namespace K45
open PySem PySem.Spec PyProof.Rows L2 DM Sh NT
theorem lawStrip_spec {p left : Nat} (hp : 2 ≤ p) (hp2 : p < 2 ^ 64) (h0 : 0 < left) (hl : left < 2 ^ 64) (a b c d e : Option D) (M : Mem) :
    ∃ t, forL [] (mName 5) (sSeq (sIf (asB (eBin false oNe (eBin false oMod (eArgs false oInt (aCons (eVar 1) aNil)) (eVar 3)) (eC (.int 0)))) sBreak sNil) (sSet 1 (eArgs false oInt (aCons (eBin false oDiv (eVar 1) (eVar 3)) aNil)))) (rangeD 0 4000)
      [a, some (.int left), c, some (.int p), d, e] M = .nx [a, some (.int (vp p left).2), c, some (.int p), d, t] M := by
  obtain ⟨τ', M', e, rfl, t, rfl⟩ := forL_mu (g := mName 5) (b := (sSeq (sIf (asB (eBin false oNe (eBin false oMod (eArgs false oInt (aCons (eVar 1) aNil)) (eVar 3)) (eC (.int 0)))) sBreak sNil) (sSet 1 (eArgs false oInt (aCons (eBin false oDiv (eVar 1) (eVar 3)) aNil)))))
    (R := fun (m : Nat) τ M1 => (∃ e, τ = [a, some (.int m), c, some (.int p), d, e]) ∧ M1 = M ∧ 0 < m ∧ (vp p m).2 = (vp p left).2)
    (F := fun τ M1 => M1 = M ∧ ∃ t, τ = [a, some (.int (vp p left).2), c, some (.int p), d, t]) (fun x => x.log2)
    (fun m x τ M1 hR => by
      obtain ⟨⟨e, rfl⟩, rfl, hm, hv⟩ := hR
      have hp1 : ¬ p = 0 := by omega
      have hi : (m : Int) % (p : Int) = 0 ↔ m % p = 0 := by omega
      refine ⟨[a, some (.int m), c, some (.int p), d, some x], M1, by simp, ?_⟩
      by_cases hq : m % p = 0
      · have h2 := vp_hit hp hm hq
        refine .inr ⟨m / p, [a, some (.int (m / p : Nat)), c, some (.int p), d, some x], M1, by simp [hp1, fmod_pos, hi, hq, cdiv_nat hp hp2, fdiv_pos], ⟨⟨_, rfl⟩, rfl, div_pos_of hm hq, by rw [← hv, h2]⟩, ?_⟩
        have h3 := div_pos_of hm hq
        have h4 : 2 * (m / p) ≤ m := Nat.le_trans (Nat.mul_le_mul_right _ hp) (Nat.mul_div_le _ _)
        have h5 := log2_mono h4
        rw [log2_double (by omega)] at h5
        omega
      · rw [vp_miss hq] at hv
        exact .inl ⟨[a, some (.int m), c, some (.int p), d, some x], M1, by simp [hp1, fmod_pos, hi, hq], rfl, some x, by rw [← hv]⟩)
    (rangeD 0 4000) left [a, some (.int left), c, some (.int p), d, e] M ⟨⟨_, rfl⟩, rfl, h0, rfl⟩ (by
      rw [rangeD_len]
      have := log2_lt (k := 64) (by decide) hl
      omega)
  exact ⟨t, e⟩
theorem cloL_nats (k : Nat) (ns : List Nat) : CloL k (natsD ns) := by
  unfold natsD
  exact of_eq_true (cloL_ints _ _)
theorem lawPrimes_spec {n : Int} (hn : n ≠ 0) (hn2 : n.natAbs < 2 ^ 33) (M : Mem) : c__law_primes_in [.int n] M = .ok (.lst (natsD (T n.natAbs 2))) M := by
  obtain ⟨τ', M', e, left, p', acc, t, u, rfl, rfl, inv, hlt⟩ := forL_mu (g := mName 4)
    (b := (sSeq (sIf (asB (eBin false oGt (eBin false oMul (eVar 3) (eVar 3)) (eVar 1))) sBreak sNil) (sSeq (sIf (asB (eBin false oEq (eBin false oMod (eArgs false oInt (aCons (eVar 1) aNil)) (eVar 3)) (eC (.int 0)))) (sSeq (sExpr (eMt oAppend (eVar 2) (aCons (eVar 3) aNil))) (sFor (iRange1 (aCons (eC (.int 4000)) aNil)) (mName 5) (sSeq (sIf (asB (eBin false oNe (eBin false oMod (eArgs false oInt (aCons (eVar 1) aNil)) (eVar 3)) (eC (.int 0)))) sBreak sNil) (sSet 1 (eArgs false oInt (aCons (eBin false oDiv (eVar 1) (eVar 3)) aNil)))))) sNil) (sSet 3 (eBin false oAdd (eVar 3) (eC (.int 1)))))))
    (R := fun (x : Nat × Nat × List Nat) τ M1 => (∃ t u, τ = [some (.int n), some (.int x.1), some (.loc M.length), some (.int x.2.1), t, u]) ∧ M1 = M ++ [some (natsD x.2.2)] ∧ PInv (T n.natAbs 2) n.natAbs x.1 x.2.1 x.2.2)
    (F := fun τ M1 => ∃ left p' acc t u, τ = [some (.int n), some (.int (left : Nat)), some (.loc M.length), some (.int (p' : Nat)), t, u] ∧ M1 = M ++ [some (natsD acc)] ∧ PInv (T n.natAbs 2) n.natAbs left p' acc ∧ left < p' * p')
    (fun x => 93000 - x.2.1)
    (fun x d τ M1 hR => by
      obtain ⟨left, p, acc⟩ := x
      obtain ⟨⟨t, u, rfl⟩, rfl, inv⟩ := hR
      dsimp only at inv
      have hp2 := inv.p2
      have hpb := inv.pb
      have hle := inv.le
      have hpos := inv.pos
      have hlen := inv.len
      have q1 : CMulG (p : Int) (p : Int) := cmul_l (by omega)
      refine ⟨[some (.int n), some (.int left), some (.loc M.length), some (.int p), some d, u], M ++ [some (natsD acc)], by simp, ?_⟩
      by_cases hlt : left < p * p
      · refine .inl ⟨[some (.int n), some (.int left), some (.loc M.length), some (.int p), some d, u], M ++ [some (natsD acc)], ?_, left, p, acc, some d, u, rfl, rfl, inv, hlt⟩
        have : (left : Int) < (p : Int) * p := by omega
        simp [q1, this]
      · have hs := sq_lt hlt (by omega)
        have hge : ¬ (left : Int) < (p : Int) * p := by omega
        have hp1 : ¬ p = 0 := by omega
        have hi : (left : Int) % (p : Int) = 0 ↔ left % p = 0 := by omega
        by_cases hq : left % p = 0
        · have hr := vp_rest hp2 hpos
          obtain ⟨t', e1⟩ := lawStrip_spec (p := p) (left := left) hp2 (by omega) hpos (by omega) (some (.int n)) none (some (.loc M.length)) (some d) u (M ++ [some (natsD (acc ++ [p]))])
          have hT := T_hit hp2 hpos hlt hq
          refine .inr ⟨((vp p left).2, p + 1, acc ++ [p]), [some (.int n), some (.int (vp p left).2), some (.loc M.length), some (.int (p + 1 : Nat)), some d, t'], M ++ [some (natsD (acc ++ [p]))], ?_, ⟨⟨_, _, rfl⟩, rfl, ⟨by dsimp only; omega, by dsimp only; omega, hr.2.1, by dsimp only; omega, by simp; omega, ?_⟩⟩, by dsimp only; omega⟩
          · have : acc.length ≤ 16777215 := by omega
            have e2 : natsD acc ++ [D.int p] = natsD (acc ++ [p]) := by simp [natsD]
            have hz : (natsD acc).length < sizeLine := by rw [natsD_len]; show _ < 16777216; omega
            simp [q1, hge, hp1, fmod_pos, hi, hq, hz, e2, e1]
          · have ht := inv.tot
            rw [hT] at ht
            rw [← ht]
            simp
        · refine .inr ⟨(left, p + 1, acc), [some (.int n), some (.int left), some (.loc M.length), some (.int (p + 1 : Nat)), some d, u], M ++ [some (natsD acc)], by simp [q1, hge, hp1, fmod_pos, hi, hq], ⟨⟨_, _, rfl⟩, rfl, ⟨by dsimp only; omega, by dsimp only; omega, hpos, hle, by dsimp only; omega, ?_⟩⟩, by dsimp only; omega⟩
          have ht := inv.tot
          have hT := T_miss hp2 hpos hlt hq
          dsimp only at ht ⊢
          rw [← ht, hT])
    (rangeD 0 100000) (n.natAbs, 2, []) [some (.int n), some (.int n.natAbs), some (.loc M.length), some (.int 2), none, none] (M ++ [some []]) ⟨⟨_, _, rfl⟩, by simp [natsD], ⟨by dsimp only; omega, by dsimp only; omega, by dsimp only; omega, Nat.le_refl _, by simp, by simp⟩⟩ (by rw [rangeD_len]; dsimp only; omega)
  have q : ∀ i : Int, (if i < 0 then -i else i) = (i.natAbs : Int) := fun i => by split <;> omega
  have ht := inv.tot
  have hlen := inv.len
  have hpb := inv.pb
  rw [T_end inv.p2 inv.pos hlt] at ht
  have fin : endT M (.rt (.loc M.length) (M ++ [some (natsD (T n.natAbs 2))])) = .ok (.lst (natsD (T n.natAbs 2))) M := by
    refine trunc_app (fz_ints (is := (T n.natAbs 2).map fun n : Nat => (n : Int)) (Nat.le_refl _) ?_)
    simp [natsD]
  have fin2 : endT M (.rt (.lst (natsD (T n.natAbs 2))) (M ++ [some (natsD acc)])) = .ok (.lst (natsD (T n.natAbs 2))) M := by
    exact trunc_app (fz_clo (cloL_nats _ _))
  unfold c__law_primes_in m__law_primes_in
  by_cases h1 : 1 < left
  · have h2 : (1 : Int) < (left : Int) := by omega
    have hz : (natsD acc).length + 1 ≤ 16777216 := by rw [natsD_len]; omega
    have e2 : natsD acc ++ [D.int left] = natsD (T n.natAbs 2) := by rw [← ht]; simp [natsD, tl, h1]
    simp [startD, q, e, h2, hz, e2, fin2]
  · have h2 : ¬ (1 : Int) < (left : Int) := by omega
    have e2 : natsD acc = natsD (T n.natAbs 2) := by rw [← ht]; simp [tl, h1]
    simp [startD, q, e, h2, e2, fin]
end K45

namespace NT
def discStep (m : Nat) (f : Int) (p : Nat) : Int := if (vp p m).1 % 2 = 1 then f * p else f
def disc (n : Int) : Int :=
  let f := (T n.natAbs 2).foldl (discStep n.natAbs) (if 0 < n then 1 else -1)
  if f % 4 = 1 then f else 4 * f
end NT
namespace K45
open PySem PySem.Spec PyProof.Rows L2 DM Sh NT
theorem natsD_map (ns : List Nat) : natsD ns = ns.map fun n : Nat => D.int n := by simp [natsD]
theorem T_mem {n x : Nat} (h0 : 0 < n) (h : x ∈ T n 2) : 2 ≤ x ∧ x ≤ max n 2 := T_pos _ _ _ (Nat.le_refl _) h0 x h
theorem vmod (n : Nat) : ((n : Int) % 2 = 1) = (n % 2 = 1) := by
  apply propext
  omega
theorem discOf_spec {n : Int} (hn : n ≠ 0) (hn2 : n.natAbs < 2 ^ 33) (M : Mem) : c_discriminant_of [.int n] M = .ok (.int (disc n)) M := by
  obtain ⟨τ', M', e, ⟨rfl, t, rfl⟩, _⟩ := forL_rel (src := []) (g := mName 2) (b := sIf (asB (eBin false oEq (eBin false oMod (eCall 2 (c_often_in) (aCons (eVar 0) (aCons (eVar 2) aNil))) (eC (.int 2))) (eC (.int 1)))) (sSet 1 (eBin false oMul (eVar 1) (eVar 2))) sNil)
    (enc := fun p : Nat => D.int p) (R := fun (f : Int) τ M1 => M1 = M ∧ ∃ t, τ = [some (.int n), some (.int f), t]) (f := discStep n.natAbs) (Inv := fun _ ys => ∀ x ∈ ys, 2 ≤ x ∧ x < 2 ^ 64)
    (fun f p ps τ M1 hi hR => by
      obtain ⟨rfl, t, rfl⟩ := hR
      have hp := hi p List.mem_cons_self
      have ho := often_spec hn hp.1 hp.2 M1
      have q1 : CMulG f (p : Int) := cmul_r (by omega)
      refine ⟨by simp, [some (.int n), some (.int f), some (.int p)], M1, [some (.int n), some (.int (discStep n.natAbs f p)), some (.int p)], M1, by simp, .inl ?_, ⟨rfl, _, rfl⟩, fun x hx => hi x (List.mem_cons_of_mem _ hx)⟩
      by_cases h : (vp p n.natAbs).1 % 2 = 1
      · simp [ho, fmod_pos, vmod, h, q1, discStep]
      · simp [ho, fmod_pos, vmod, h, q1, discStep])
    (fun _ _ _ _ _ => by simp) (T n.natAbs 2) (if 0 < n then 1 else -1) [some (.int n), some (.int (if 0 < n then 1 else -1)), none] M
    (fun x hx => by
      have := T_mem (by omega) hx
      omega) ⟨rfl, _, rfl⟩
  have hp := primes_spec hn hn2 M'
  have q4 : ∀ x, CMulG 4 x := fun x => cmul_l (by decide)
  unfold c_discriminant_of m_discriminant_of
  have hd : disc n = if ((T n.natAbs 2).foldl (discStep n.natAbs) (if 0 < n then 1 else -1)) % 4 = 1 then ((T n.natAbs 2).foldl (discStep n.natAbs) (if 0 < n then 1 else -1)) else 4 * ((T n.natAbs 2).foldl (discStep n.natAbs) (if 0 < n then 1 else -1)) := rfl
  rw [hd]
  generalize hf : (T n.natAbs 2).foldl (discStep n.natAbs) (if 0 < n then 1 else -1) = f at *
  rw [← natsD_map] at e
  have e0 : (if 0 < n then D.int 1 else D.int (-1)) = D.int (if 0 < n then 1 else -1) := by split <;> rfl
  by_cases h0 : 0 < n <;> by_cases h4 : f % 4 = 1 <;> simp [h0] at e <;> simp [startD, hp, h0, e, fmod_pos, h4, q4]
theorem lawDisc_spec {n : Int} (hn : n ≠ 0) (hn2 : n.natAbs < 2 ^ 33) (M : Mem) : c__law_discriminant [.int n] M = .ok (.int (disc n)) M := by
  obtain ⟨τ', M', e, ⟨rfl, t, rfl⟩, _⟩ := forL_rel (src := []) (g := mName 2) (b := (sIf (asB (eBin false oEq (eBin false oMod (eArgs false oInt (aCons (eCall 2 (c__law_often) (aCons (eVar 0) (aCons (eVar 2) aNil))) aNil)) (eC (.int 2))) (eC (.int 1)))) (sSet 1 (eBin false oMul (eVar 1) (eVar 2))) sNil))
    (enc := fun p : Nat => D.int p) (R := fun (f : Int) τ M1 => M1 = M ∧ ∃ t, τ = [some (.int n), some (.int f), t]) (f := discStep n.natAbs) (Inv := fun _ ys => ∀ x ∈ ys, 2 ≤ x ∧ x < 2 ^ 64)
    (fun f p ps τ M1 hi hR => by
      obtain ⟨rfl, t, rfl⟩ := hR
      have hp := hi p List.mem_cons_self
      have ho := lawOften_spec hn (by omega) hp.1 hp.2 M1
      have q1 : CMulG f (p : Int) := cmul_r (by omega)
      refine ⟨by simp, [some (.int n), some (.int f), some (.int p)], M1, [some (.int n), some (.int (discStep n.natAbs f p)), some (.int p)], M1, by simp, .inl ?_, ⟨rfl, _, rfl⟩, fun x hx => hi x (List.mem_cons_of_mem _ hx)⟩
      by_cases h : (vp p n.natAbs).1 % 2 = 1
      · simp [ho, fmod_pos, vmod, h, q1, discStep]
      · simp [ho, fmod_pos, vmod, h, q1, discStep])
    (fun _ _ _ _ _ => by simp) (T n.natAbs 2) (if 0 < n then 1 else -1) [some (.int n), some (.int (if 0 < n then 1 else -1)), none] M
    (fun x hx => by
      have := T_mem (by omega) hx
      omega) ⟨rfl, _, rfl⟩
  have hp := lawPrimes_spec hn hn2 M'
  have q4 : ∀ x, CMulG 4 x := fun x => cmul_l (by decide)
  unfold c__law_discriminant m__law_discriminant
  have hd : disc n = if ((T n.natAbs 2).foldl (discStep n.natAbs) (if 0 < n then 1 else -1)) % 4 = 1 then ((T n.natAbs 2).foldl (discStep n.natAbs) (if 0 < n then 1 else -1)) else 4 * ((T n.natAbs 2).foldl (discStep n.natAbs) (if 0 < n then 1 else -1)) := rfl
  rw [hd]
  generalize hf : (T n.natAbs 2).foldl (discStep n.natAbs) (if 0 < n then 1 else -1) = f at *
  rw [← natsD_map] at e
  by_cases h0 : 0 < n <;> by_cases h4 : f % 4 = 1 <;> simp [h0] at e <;> simp [startD, hp, h0, e, fmod_pos, h4, q4]
/-- told_whole, where it passes -/
theorem toldWhole_spec {n : Int} (hn : n ≠ 0) (hn2 : n.natAbs < 2 ^ 64) (M : Mem) : c_told_whole [.int n, .non] M = .ok (.int n) M := by
  have q : ∀ i : Int, (if i < 0 then -i else i) = (i.natAbs : Int) := fun i => by split <;> omega
  have h1 : ¬ (1000000000000000000000000000000000000000000000000000000000000 : Int) ≤ (n.natAbs : Int) := by omega
  unfold c_told_whole m_told_whole
  simp [startD, q, h1, hn]
theorem discriminant_spec {n : Int} (hn : n ≠ 0) (hn2 : n.natAbs ≤ 1000000000) (M : Mem) : c_discriminant [.int n] M = .ok (.int (disc n)) M := by
  have h1 := toldWhole_spec hn (by omega) M
  have h2 := discOf_spec hn (by omega) M
  have q : ∀ i : Int, (if i < 0 then -i else i) = (i.natAbs : Int) := fun i => by split <;> omega
  have h3 : ¬ (1000000000 : Int) < (n.natAbs : Int) := by omega
  unfold c_discriminant m_discriminant
  simp [startD, q, h1, h2, h3]
theorem disc_ne (n : Int) (hn : n ≠ 0) : disc n ≠ 0 := by
  have : ∀ (ps : List Nat) (f : Int), f ≠ 0 → (∀ x ∈ ps, 2 ≤ x) → ps.foldl (discStep n.natAbs) f ≠ 0 := by
    intro ps
    induction ps with
    | nil => exact fun f h _ => h
    | cons p ps ih =>
      intro f h hx
      refine ih _ ?_ fun x h => hx x (List.mem_cons_of_mem _ h)
      unfold discStep
      split
      · have := hx p List.mem_cons_self
        exact Int.mul_ne_zero h (by omega)
      · exact h
  have h := this (T n.natAbs 2) (if 0 < n then 1 else -1) (by split <;> decide) (fun x hx => (T_mem (by omega) hx).1)
  unfold disc
  dsimp only
  generalize List.foldl (discStep n.natAbs) (if 0 < n then 1 else -1) (T n.natAbs 2) = f at *
  split
  · exact h
  · exact Int.mul_ne_zero (by decide) h
end K45

namespace NT
/-- powers modulo q, by squaring -/
def pm : Nat → Nat → Nat → Nat → Nat → Nat
  | 0, f, _, _, _ => f
  | k + 1, f, b, m, q => if m = 0 then f else pm k (if m % 2 = 1 then f * b % q else f) (b * b % q) (m / 2) q
def sgnL (d : Int) (p : Nat) : Int := if p = 2 then (if d % 8 = 1 then 1 else -1) else if pm 64 1 (d % p).toNat ((p - 1) / 2) p = 1 then 1 else -1
def chiL (d : Int) (a : Nat) : Int := if 1 < Nat.gcd d.natAbs a then 0 else (T a 2).foldl (fun f p => f * sgnL d p ^ (vp p a).1) 1
end NT
namespace K45
open PySem PySem.Spec PyProof.Rows L2 DM Sh NT
theorem powMod_spec {b q : Int} {m : Nat} (hm : m < 2 ^ 64) (hq : 0 < q) (hq2 : q < 2 ^ 32) (M : Mem) :
    c__law_power_modulo [.int b, .int m, .int q] M = .ok (.int (pm 64 1 (b % q).toNat m q.toNat : Nat)) M := by
  obtain ⟨τ', M', e, rfl, t1, t2, t3, t4, t5, rfl⟩ := forL_mu (g := mName 5) (b := (sSeq (sIf (asB (eBin false oEq (eVar 1) (eC (.int 0)))) sBreak sNil) (sSeq (sIf (asB (eBin false oEq (eBin false oMod (eArgs false oInt (aCons (eVar 1) aNil)) (eC (.int 2))) (eC (.int 1)))) (sSet 3 (eBin false oMod (eArgs false oInt (aCons (eBin false oMul (eVar 3) (eVar 4)) aNil)) (eVar 2))) sNil) (sSeq (sSet 4 (eBin false oMod (eArgs false oInt (aCons (eBin false oMul (eVar 4) (eVar 4)) aNil)) (eVar 2))) (sSet 1 (eArgs false oInt (aCons (eBin false oDiv (eVar 1) (eC (.int 2))) aNil)))))))
    (R := fun (x : Nat × Nat × Nat × Nat) τ M1 => (∃ t, τ = [some (.int b), some (.int x.2.2.2), some (.int q), some (.int x.2.1), some (.int x.2.2.1), t]) ∧ M1 = M ∧ x.2.2.2 < 2 ^ x.1 ∧ x.2.1 < 2 ^ 33 ∧ x.2.2.1 < 2 ^ 33 ∧ pm x.1 x.2.1 x.2.2.1 x.2.2.2 q.toNat = pm 64 1 (b % q).toNat m q.toNat ∧ x.1 ≤ 64)
    (F := fun τ M1 => M1 = M ∧ ∃ t1 t2 t3 t4 t5, τ = [t1, t2, t3, some (.int (pm 64 1 (b % q).toNat m q.toNat : Nat)), t4, t5]) (fun x => x.1)
    (fun x d τ M1 hR => by
      obtain ⟨k, f, c, n⟩ := x
      obtain ⟨⟨t, rfl⟩, rfl, h1, h2, h3, h4, h5⟩ := hR
      dsimp only at h1 h2 h3 h4 h5
      refine ⟨[some (.int b), some (.int n), some (.int q), some (.int f), some (.int c), some d], M1, by simp, ?_⟩
      by_cases hn : n = 0
      · subst hn
        have : pm k f c 0 q.toNat = f := by cases k <;> simp [pm]
        rw [this] at h4
        exact .inl ⟨[some (.int b), some (.int 0), some (.int q), some (.int f), some (.int c), some d], M1, by simp, rfl, _, _, _, _, _, by rw [h4]⟩
      · obtain ⟨k, rfl⟩ : ∃ j, k = j + 1 := by
          cases k with
          | zero => simp at h1; omega
          | succ k => exact ⟨k, rfl⟩
        have e1 : pm (k + 1) f c n q.toNat = pm k (if n % 2 = 1 then f * c % q.toNat else f) (c * c % q.toNat) (n / 2) q.toNat := by
          conv => lhs; unfold pm
          rw [if_neg hn]
        have hq0 : ¬ q = 0 := by omega
        have hz : ((q.toNat : Nat) : Int) = q := Int.toNat_of_nonneg (by omega)
        have g1 : ∀ x y : Nat, (x : Int) * (y : Int) % q = ((x * y % q.toNat : Nat) : Int) := fun x y => by
          rw [Int.natCast_emod, hz, Int.natCast_mul]
        have g2 : ∀ x : Nat, x % q.toNat < 2 ^ 33 := fun x => Nat.lt_trans (Nat.mod_lt _ (by omega)) (by omega)
        have q1 : CMulG (f : Int) (c : Int) := cmul_l (by omega)
        have q2 : CMulG (c : Int) (c : Int) := cmul_l (by omega)
        have q3 : CDivG (n : Int) 2 := ⟨by decide, by decide⟩
        have hmo : ((n : Int) % 2 = 1) = (n % 2 = 1) := vmod n
        refine .inr ⟨(k, (if n % 2 = 1 then f * c % q.toNat else f), c * c % q.toNat, n / 2), [some (.int b), some (.int (n / 2 : Nat)), some (.int q), some (.int (if n % 2 = 1 then f * c % q.toNat else f : Nat)), some (.int (c * c % q.toNat : Nat)), some d], M1, ?_, ⟨⟨_, rfl⟩, rfl, ?_, ?_, g2 _, by rw [← h4, e1], by dsimp only; omega⟩, by dsimp only; omega⟩
        · by_cases ho : n % 2 = 1
          · simp only [sSeq, sIf, sSet, sBreak, sNil]
            simp [hn, fmod_pos, hmo, ho, q1, q2, hq0, fmod_pos (b := q) (by omega), g1, q3, fdiv_pos]
          · simp only [sSeq, sIf, sSet, sBreak, sNil]
            simp [hn, fmod_pos, hmo, ho, q1, q2, hq0, fmod_pos (b := q) (by omega), g1, q3, fdiv_pos]
        · dsimp only
          rw [Nat.pow_succ] at h1
          omega
        · dsimp only
          split
          · exact g2 _
          · exact h2)
    (rangeD 0 4000) (64, 1, (b % q).toNat, m) [some (.int b), some (.int m), some (.int q), some (.int 1), some (.int (b % q)), none] M
    ⟨⟨_, by
      have : 0 ≤ b % q := Int.emod_nonneg _ (by omega)
      rw [Int.toNat_of_nonneg this]; rfl⟩, rfl, hm, by dsimp only; omega, by
      have h0 : 0 ≤ b % q := Int.emod_nonneg _ (by omega)
      have h1 : b % q < q := Int.emod_lt_of_pos _ hq
      dsimp only
      omega, rfl, Nat.le_refl _⟩ (by rw [rangeD_len]; dsimp only; omega)
  have hq0 : ¬ q = 0 := by omega
  unfold c__law_power_modulo m__law_power_modulo
  simp [startD, hq0, fmod_pos (b := q) (by omega), e]
theorem sign_spec {d : Int} {p : Nat} (hp : 2 < p) (hp2 : p < 2 ^ 32) (M : Mem) : c__law_sign [.int d, .int p] M = .ok (.int (sgnL d p)) M := by
  have h1 := powMod_spec (b := d) (q := (p : Int)) (m := (p - 1) / 2) (by omega) (by omega) (by omega) M
  have q3 : CDivG ((p : Int) - 1) 2 := ⟨by decide, by decide⟩
  rw [Int.toNat_natCast] at h1
  unfold c__law_sign m__law_sign sgnL
  rw [if_neg (by omega)]
  obtain ⟨m, hm⟩ : ∃ m, (p - 1) / 2 = m := ⟨_, rfl⟩
  have e : ((p : Int) - 1) / 2 = (m : Int) := by omega
  rw [hm] at h1 ⊢
  generalize pm 64 1 (d % ↑p).toNat m p = v at *
  have hv : ((v : Int) = 1) = (v = 1) := by apply propext; omega
  by_cases h : v = 1 <;> simp [startD, q3, fdiv_pos, e, h1, h, hv]
theorem sgnL_abs (d : Int) (p : Nat) : sgnL d p = 1 ∨ sgnL d p = -1 := by
  unfold sgnL
  split <;> split <;> simp
/-- the law's characters -/
theorem character_spec {d : Int} {a : Nat} (hd : d.natAbs < 2 ^ 33) (ha : 0 < a) (ha2 : a < 2 ^ 32) (M : Mem) : c__law_character [.int d, .int a] M = .ok (.int (chiL d a)) M := by
  have hg := common_spec (a := d) (b := (a : Int)) (small_log (by omega)) (by rw [Int.natAbs_natCast]; exact small_log (by omega)) M
  rw [Int.natAbs_natCast] at hg
  unfold chiL
  unfold c__law_character m__law_character
  have hgi : ((1 : Int) < ((Nat.gcd d.natAbs a : Nat) : Int)) = (1 < Nat.gcd d.natAbs a) := by apply propext; omega
  by_cases h1 : 1 < Nat.gcd d.natAbs a
  · simp [startD, hg, hgi, h1]
  · obtain ⟨τ', M', e, ⟨rfl, t1, t2, t3, rfl⟩, _⟩ := forL_rel (src := []) (g := mName 3) (b := (sSeq (sSet 4 (eIf (asB (eBin false oEq (eVar 3) (eC (.int 2)))) (eIf (asB (eBin false oEq (eBin false oMod (eArgs false oInt (aCons (eVar 0) aNil)) (eC (.int 8))) (eC (.int 1)))) (eC (.int 1)) (eUn false oNeg (eC (.int 1)))) (eCall 2 (c__law_sign) (aCons (eVar 0) (aCons (eVar 3) aNil))))) (sFor (iRange1 (aCons (eCall 2 (c__law_often) (aCons (eVar 1) (aCons (eVar 3) aNil))) aNil)) (mName 5) (sSet 2 (eBin false oMul (eVar 2) (eVar 4))))))
      (enc := fun p : Nat => D.int p) (R := fun (f : Int) τ M1 => M1 = M ∧ ∃ t1 t2 t3, τ = [some (.int d), some (.int a), some (.int f), t1, t2, t3]) (f := fun f p => f * sgnL d p ^ (vp p a).1) (Inv := fun _ ys => ∀ x ∈ ys, 2 ≤ x ∧ x < 2 ^ 32)
      (fun f p ps τ M1 hi hR => by
        obtain ⟨rfl, t1, t2, t3, rfl⟩ := hR
        have hp := hi p List.mem_cons_self
        have ho := lawOften_spec (n := (a : Int)) (p := p) (by omega) (by omega) hp.1 (by omega) M1
        rw [Int.natAbs_natCast] at ho
        have hs : ∀ x, CMulG x (sgnL d p) := fun x => cmul_r (by rcases sgnL_abs d p with z | z <;> rw [z] <;> decide)
        obtain ⟨τ2, M2, e2, hM2, t4, rfl⟩ := forL_range (g := mName 5) (b := sSet 2 (eBin false oMul (eVar 2) (eVar 4))) (lo := 0) (n := (vp p a).1)
          (R := fun i τ M2 => M2 = M1 ∧ ∃ t, τ = [some (.int d), some (.int a), some (.int (f * sgnL d p ^ i)), some (.int p), some (.int (sgnL d p)), t])
          (fun i τ M2 hi hR => by
            obtain ⟨rfl, t, rfl⟩ := hR
            exact ⟨[some (.int d), some (.int a), some (.int (f * sgnL d p ^ i)), some (.int p), some (.int (sgnL d p)), some (.int i)], M2, [some (.int d), some (.int a), some (.int (f * sgnL d p ^ (i + 1))), some (.int p), some (.int (sgnL d p)), some (.int i)], M2, by simp, .inl (by simp [hs, Int.pow_succ, Int.mul_assoc]), rfl, _, rfl⟩)
          (τ := [some (.int d), some (.int a), some (.int f), some (.int p), some (.int (sgnL d p)), t3]) (M := M1) ⟨rfl, t3, by simp⟩
        rw [hM2] at e2
        have hv : (vp p a).1 < 4611686018427387904 := by
          have := vp_le hp.1 ha
          omega
        refine ⟨by simp, [some (.int d), some (.int a), some (.int f), some (.int p), t2, t3], M1, [some (.int d), some (.int a), some (.int (f * sgnL d p ^ (vp p a).1)), some (.int p), some (.int (sgnL d p)), t4], M1, by simp, .inl ?_, ⟨rfl, _, _, _, rfl⟩, fun x hx => hi x (List.mem_cons_of_mem _ hx)⟩
        by_cases h2 : p = 2
        · have hsg : sgnL d p = if d % 8 = 1 then 1 else -1 := by unfold sgnL; rw [if_pos h2]
          have hpe : ((p : Int) = 2) = True := eq_true (by omega)
          by_cases h8 : d % 8 = 1
          · rw [hsg, if_pos h8] at e2 ⊢
            simp [fmod_pos, hpe, h8, ho, hv, e2]
          · rw [hsg, if_neg h8] at e2 ⊢
            simp [fmod_pos, hpe, h8, ho, hv, e2]
        · have hs2 := sign_spec (d := d) (p := p) (by omega) hp.2 M1
          have h2' : ¬ (p : Int) = 2 := by omega
          simp [h2', hs2, ho, hv, e2])
      (fun _ _ _ _ _ => by simp) (T a 2) 1 [some (.int d), some (.int a), some (.int 1), none, none, none] M
      (fun x hx => by
        have := T_mem ha hx
        omega) ⟨rfl, _, _, _, rfl⟩
    have hp := lawPrimes_spec (n := (a : Int)) (by omega) (by omega) M'
    rw [Int.natAbs_natCast] at hp
    rw [← natsD_map] at e
    simp [startD, hg, hgi, h1, hp, e]
end K45

namespace NT
def mask (p : Nat) : Nat → Nat
  | 0 => 0
  | n + 1 => mask p n ||| (1 <<< ((n + 1) * (n + 1) % p))
def qr (p r : Nat) : Int := if r = 0 then 0 else if (mask p (p - 1)).testBit r then 1 else -1
theorem mask_bit (p n r : Nat) : (mask p (n + 1)).testBit r = ((mask p n).testBit r || decide ((n + 1) * (n + 1) % p = r)) := by
  show (mask p n ||| (1 <<< ((n + 1) * (n + 1) % p))).testBit r = _
  rw [Nat.testBit_or, Nat.one_shiftLeft, Nat.testBit_two_pow]
end NT
namespace K45
open PySem PySem.Spec PyProof.Rows L2 DM Sh NT
def sqRow (p n : Nat) : List D := (List.range p).map fun r => D.int (if (mask p n).testBit r then 1 else -1)
theorem sqRow_zero (p : Nat) : List.replicate p (D.int (-1)) = sqRow p 0 := by
  unfold sqRow mask
  simp [List.map_const']
theorem sqRow_set (p n : Nat) : (sqRow p n).set ((n + 1) * (n + 1) % p) (.int 1) = sqRow p (n + 1) := by
  apply List.ext_getElem
  · simp [sqRow]
  · intro i h1 h2
    have hi : i < p := by simpa [sqRow] using h2
    rw [List.getElem_set]
    simp only [sqRow, List.getElem_map, List.getElem_range, mask_bit]
    by_cases h : (n + 1) * (n + 1) % p = i
    · simp [h]
    · simp [h]
def row (p : Nat) : List D := (List.range p).map fun r => D.int (qr p r)
theorem sqRow_fin {p : Nat} (hp : 0 < p) : (sqRow p (p - 1)).set 0 (.int 0) = row p := by
  apply List.ext_getElem
  · simp [sqRow, row]
  · intro i h1 h2
    rw [List.getElem_set]
    simp only [sqRow, row, qr, List.getElem_map, List.getElem_range]
    by_cases h : i = 0
    · subst h; simp
    · rw [if_neg (by omega), if_neg h]
theorem sqRow_len (p n : Nat) : (sqRow p n).length = p := by simp [sqRow]
theorem row_ints (p : Nat) : row p = ((List.range p).map fun r => qr p r).map .int := by simp [row]
theorem squares_spec {p : Nat} (hp : 2 ≤ p) (hp2 : p < 1000000) (M : Mem) : c_squares_row [.int p] M = .ok (.lst (row p)) M := by
  have hl : M.length < (M ++ [some (sqRow p 0)]).length := by simp
  obtain ⟨τ', M', e, rfl, t, rfl⟩ := forL_range (g := mName 2) (b := sAsg (eC (.int 1)) (mSub (eVar 1) (eBin false oMod (eBin false oMul (eVar 2) (eVar 2)) (eVar 0)))) (lo := 1) (n := p - 1)
    (R := fun i τ M1 => M1 = M ++ [some (sqRow p i)] ∧ ∃ t, τ = [some (.int p), some (.loc M.length), t])
    (fun i τ M1 hi hR => by
      obtain ⟨rfl, t, rfl⟩ := hR
      have q1 : CMulG (1 + (i : Int)) (1 + (i : Int)) := cmul_l (by omega)
      have hp0 : ¬ p = 0 := by omega
      have hm : (1 + (i : Int)) * (1 + (i : Int)) % (p : Int) = (((i + 1) * (i + 1) % p : Nat) : Int) := by
        rw [Int.natCast_emod, Int.natCast_mul, Int.natCast_add, Int.add_comm]; rfl
      have hlt : (i + 1) * (i + 1) % p < p := Nat.mod_lt _ (by omega)
      have hix : ixN (sqRow p i).length (((i + 1) * (i + 1) % p : Nat) : Int) = some ((i + 1) * (i + 1) % p) := by
        rw [sqRow_len]
        have := ixN_of (n := p) (i := (((i + 1) * (i + 1) % p : Nat) : Int)) (by omega) (by omega)
        rw [this, Int.toNat_natCast]
      generalize hs : (i + 1) * (i + 1) % p = s at *
      have hset := sqRow_set p i
      rw [hs] at hset
      refine ⟨[some (.int p), some (.loc M.length), some (.int (1 + i))], M ++ [some (sqRow p i)], [some (.int p), some (.loc M.length), some (.int (1 + i))], M ++ [some (sqRow p (i + 1))], by simp, .inl ?_, rfl, _, rfl⟩
      simp [q1, hp0, fmod_pos, hm, hix, hset])
    (τ := [some (.int p), some (.loc M.length), none]) (M := M ++ [some (sqRow p 0)]) ⟨rfl, _, rfl⟩
  have hr : repOk 1 (p : Int) := repOk_of (by omega) (by omega) (by simp; omega)
  have he : ((p : Int) - 1).toNat = p - 1 := by omega
  have hrg : rngOk (p : Int) := rngOk_nat (by omega)
  have h0 : 0 < p := by omega
  have hx : ixN (sqRow p (p - 1)).length 0 = some 0 := by
    rw [sqRow_len]
    exact ixN_of (by omega) (by omega)
  have hf := sqRow_fin (p := p) (by omega)
  have fin : endT M (.rt (.loc M.length) (M ++ [some (row p)])) = .ok (.lst (row p)) M := by
    rw [row_ints]
    exact trunc_app (fz_ints (Nat.le_refl _) (by simp [memAt]))
  unfold c_squares_row m_squares_row
  simp [startD, hr, hrg, sqRow_zero, he, e, hx, hf, fin]

end K45
namespace NT
/-- the odd primes -/
def odds (d : Int) : List Nat := (T d.natAbs 2).filter fun p => decide (p ≠ 2)
def leftStep (l : Int) (p : Nat) : Int := l.fdiv (if p % 4 = 1 then (p : Int) else -(p : Int))
def leftOf (d : Int) : Int := (odds d).foldl leftStep d
def e8 (l : Int) : Option (List Int) := if l = 1 then some [1, 1, 1, 1, 1, 1, 1, 1] else if l = -4 then some [0, 1, 0, -1, 0, 1, 0, -1] else if l = 8 then some [0, 1, 0, -1, 0, -1, 0, 1] else if l = -8 then some [0, 1, 0, 1, 0, -1, 0, -1] else none
end NT
namespace K45
open PySem PySem.Spec PyProof.Rows L2 DM Sh NT
theorem e8_find {l : Int} {r : List Int} (h : e8 l = some r) : rows_EIGHTHS.find? (fun x => x.1 == l) = some (l, .kt (r.map .int)) := by
  unfold e8 at h
  by_cases h1 : l = 1
  · subst h1; cases h; rfl
  by_cases h2 : l = -4
  · subst h2; cases h; rfl
  by_cases h3 : l = 8
  · subst h3; cases h; rfl
  by_cases h4 : l = -8
  · subst h4; cases h; rfl
  rw [if_neg h1, if_neg h2, if_neg h3, if_neg h4] at h
  cases h
theorem tupD_nats (ns : List Nat) : ns.map (fun n : Nat => D.int n) = natsD ns := (natsD_map ns).symm
theorem T_len (n : Nat) : ∀ (k left p : Nat), (Tf k left p).length ≤ k + 1
  | 0, left, p => by
    unfold Tf tl
    split <;> simp
  | k + 1, left, p => by
    unfold Tf
    split
    · unfold tl; split <;> simp
    · split
      · have := T_len n k (vp p left).2 (p + 1)
        simp; omega
      · have := T_len n k left (p + 1)
        omega
theorem periods_spec {d : Int} (hd : d ≠ 0) (hd2 : d.natAbs < 1000000) {r : List Int} (he : e8 (leftOf d) = some r) (M : Mem) :
    c_periods_of [.int d] M = .ok (.lst (.kt (r.map .int) :: (odds d).map fun p => .lst (row p))) M := by
  have hmem : ∀ x ∈ odds d, 2 ≤ x ∧ x < 1000000 := fun x hx => by
    have := T_mem (n := d.natAbs) (by omega) (List.mem_filter.mp hx).1
    omega
  have hp := primes_spec hd (by omega) M
  have hlen := T_len 0 d.natAbs d.natAbs 2
  have hlen2 : (T d.natAbs 2).length ≤ 16777216 := by
    show (Tf d.natAbs d.natAbs 2).length ≤ _
    omega
  have hol : (odds d).length ≤ 16777215 := Nat.le_trans (List.length_filter_le _ _) (by show (Tf d.natAbs d.natAbs 2).length ≤ _; omega)
  have c1 := lcL_map (src := []) (g := mName 3) (t := asB (eBin false oNe (eVar 3) (eC (.int 2)))) (e := eVar 3) (enc := fun p : Nat => D.int p) (p := fun p : Nat => decide (p ≠ 2)) (v := fun p : Nat => D.int p) (τ := [some (.int d), none, none, none]) (M := M) (by simp) (T d.natAbs 2)
    (fun p hp => ⟨[some (.int d), none, none, some (.int p)], by simp, by
      have : ((p : Int) = 2) = (p = 2) := by apply propext; omega
      simp [this], fun _ => by simp⟩)
  obtain ⟨τ', M', e, ⟨rfl, t, rfl⟩, _⟩ := forL_rel (src := []) (g := mName 3) (b := sSet 2 (eBin false oDiv (eVar 2) (eIf (asB (eBin false oEq (eBin false oMod (eVar 3) (eC (.int 4))) (eC (.int 1)))) (eVar 3) (eUn false oNeg (eVar 3)))))
    (enc := fun p : Nat => D.int p) (R := fun (l : Int) τ M1 => M1 = M ∧ ∃ t, τ = [some (.int d), some (.lst (natsD (odds d))), some (.int l), t]) (f := leftStep) (Inv := fun _ ys => ∀ x ∈ ys, 2 ≤ x ∧ x < 1000000)
    (fun l p ps τ M1 hi hR => by
      obtain ⟨rfl, t, rfl⟩ := hR
      have hp := hi p List.mem_cons_self
      have hp0 : ¬ p = 0 := by omega
      have q1 : CDivG l (p : Int) := cdiv_nat hp.1 (by omega)
      have q2 : CDivG l (-(p : Int)) := ⟨by omega, by rw [Int.natAbs_neg, Int.natAbs_natCast]; exact small_log (by omega)⟩
      have hm : ((p : Int) % 4 = 1) = (p % 4 = 1) := by apply propext; omega
      refine ⟨by simp, [some (.int d), some (.lst (natsD (odds d))), some (.int l), some (.int p)], M1, [some (.int d), some (.lst (natsD (odds d))), some (.int (leftStep l p)), some (.int p)], M1, by simp, .inl ?_, ⟨rfl, _, rfl⟩, fun x hx => hi x (List.mem_cons_of_mem _ hx)⟩
      by_cases h : p % 4 = 1
      · simp [fmod_pos, hm, h, q1, leftStep]
      · simp [fmod_pos, hm, h, q2, leftStep])
    (fun _ _ _ _ _ => by simp) (odds d) d [some (.int d), some (.lst (natsD (odds d))), some (.int d), none] M hmem ⟨rfl, _, rfl⟩
  have c2 := lcL_all (src := []) (g := mName 3) (e := eCall 1 (c_squares_row) (aCons (eVar 3) aNil)) (enc := fun p : Nat => D.int p) (v := fun p : Nat => D.lst (row p)) (τ := [some (.int d), some (.lst (natsD (odds d))), some (.int (leftOf d)), none]) (M := M') (by simp) (odds d)
    (fun p hp => ⟨[some (.int d), some (.lst (natsD (odds d))), some (.int (leftOf d)), some (.int p)], by simp, by
      have := squares_spec (hmem p hp).1 (hmem p hp).2 M'
      simp [this]⟩)
  have hl : (odds d).foldl leftStep d = leftOf d := rfl
  have ho : (T d.natAbs 2).filter (fun p => decide (p ≠ 2)) = odds d := rfl
  rw [hl] at e
  rw [ho] at c1
  simp only [tupD_nats] at e c1 c2
  have hk := e8_find he
  unfold c_periods_of m_periods_of
  have hn : ∀ x : List Nat, (natsD x).length ≤ sizeLine ↔ x.length ≤ 16777216 := fun x => by rw [natsD_len]; exact Iff.rfl
  have ho2 : (odds d).length ≤ 16777216 := by omega
  have hs2 : 1 + (odds d).length ≤ sizeLine := by show _ ≤ 16777216; omega
  simp [startD, hp, wipeD, hn, hlen2, c1, ho2, e, eKd, hk, c2, hs2]
end K45

namespace NT
def rowsI (d : Int) (r : List Int) : List (Bool × List Int) := (true, r) :: (odds d).map fun p => (false, (List.range p).map fun x => qr p x)
def chiR (rows : List (Bool × List Int)) (a : Nat) : Int := rows.foldl (fun s x => s * x.2.getD (a % x.2.length) 0) 1
def S (chi : Nat → Int) : Nat → Nat → Int
  | 0, _ => 0
  | i + 1, j => S chi i j + chi (i + 1) * ((i + 1 : Nat) : Int) ^ j
theorem qr_small (p r : Nat) : (qr p r).natAbs ≤ 1 := by
  unfold qr
  split
  · decide
  · split <;> decide
theorem e8_small {l : Int} {r : List Int} (h : e8 l = some r) : r.length = 8 ∧ ∀ x ∈ r, x.natAbs ≤ 1 := by
  unfold e8 at h
  split at h
  · cases h; decide
  split at h
  · cases h; decide
  split at h
  · cases h; decide
  split at h
  · cases h; decide
  cases h
end NT
namespace K45
open PySem PySem.Spec PyProof.Rows L2 DM Sh NT
def encR (x : Bool × List Int) : D := if x.1 = true then .kt (x.2.map .int) else .lst (x.2.map .int)
theorem rowsI_enc (d : Int) (r : List Int) : (D.kt (r.map .int) :: (odds d).map fun p => D.lst (row p)) = (rowsI d r).map encR := by
  simp [rowsI, encR, row_ints]
def sums (chi : Nat → Int) (most i : Nat) : List D := (List.range (most + 1)).map fun j => D.int (S chi i j)
def sumsAt (chi : Nat → Int) (most i k : Nat) : List D := (List.range (most + 1)).map fun j => D.int (if j < k then S chi (i + 1) j else S chi i j)
theorem sumsAt_zero (chi : Nat → Int) (most i : Nat) : sumsAt chi most i 0 = sums chi most i := by simp [sumsAt, sums]
theorem sumsAt_fin (chi : Nat → Int) (most i : Nat) : sumsAt chi most i (most + 1) = sums chi most (i + 1) := by
  unfold sumsAt sums
  apply List.map_congr_left
  intro j hj
  have : j < most + 1 := by simpa using hj
  rw [if_pos this]
theorem sumsAt_len (chi : Nat → Int) (most i k : Nat) : (sumsAt chi most i k).length = most + 1 := by simp [sumsAt]
theorem sumsAt_set {chi : Nat → Int} {most i k : Nat} (hk : k < most + 1) : (sumsAt chi most i k).set k (.int (S chi i k + chi (i + 1) * ((i + 1 : Nat) : Int) ^ k)) = sumsAt chi most i (k + 1) := by
  apply List.ext_getElem
  · simp [sumsAt]
  · intro j h1 h2
    rw [List.getElem_set]
    simp only [sumsAt, List.getElem_map, List.getElem_range]
    by_cases h : k = j
    · subst h
      rw [if_pos rfl, if_pos (by omega)]
      rfl
    · rw [if_neg h]
      by_cases h3 : j < k
      · rw [if_pos h3, if_pos (by omega)]
      · rw [if_neg h3, if_neg (by omega)]
theorem sumsAt_at {chi : Nat → Int} {most i k : Nat} (hk : k < most + 1) : atI (sumsAt chi most i k) (k : Int) = some (.int (S chi i k)) := by
  refine atI_nat ?_
  rw [List.getElem?_eq_getElem (by rw [sumsAt_len]; exact hk)]
  simp [sumsAt]
noncomputable abbrev signB : SM := sSet 5 (eBin false oMul (eVar 5) (eBin false oIx (eVar 6) (eBin false oMod (eVar 4) (eArgs false oLen (aCons (eVar 6) aNil)))))
theorem sign_loop (a : Nat) (x0 x1 x2 x3 u v : Option D) (M : Mem) : ∀ (rows : List (Bool × List Int)) (s : Int) (t : Option D), (∀ x ∈ rows, 0 < x.2.length ∧ x.2.length < 2 ^ 32 ∧ ∀ y ∈ x.2, y.natAbs ≤ 1) →
    ∃ t', forL [] (mName 6) signB (rows.map encR) [x0, x1, x2, x3, some (.int a), some (.int s), t, u, v] M = .nx [x0, x1, x2, x3, some (.int a), some (.int (rows.foldl (fun s x => s * x.2.getD (a % x.2.length) 0) s)), t', u, v] M
  | [], s, t, _ => ⟨t, by simp [forL]⟩
  | x :: xs, s, t, hi => by
    obtain ⟨h0, h1, h2⟩ := hi x List.mem_cons_self
    obtain ⟨b, ys⟩ := x
    dsimp only at h0 h1 h2
    have hlt : a % ys.length < ys.length := Nat.mod_lt _ h0
    have hmod : (a : Int) % (ys.length : Int) = ((a % ys.length : Nat) : Int) := (Int.natCast_emod _ _).symm
    have hat : atI (ys.map D.int) ((a % ys.length : Nat) : Int) = some (.int (ys.getD (a % ys.length) 0)) := by
      refine atI_nat ?_
      rw [List.getElem?_map, List.getElem?_eq_getElem hlt, List.getD_eq_getElem?_getD, List.getElem?_eq_getElem hlt]
      rfl
    have hq : CMulG s (ys.getD (a % ys.length) 0) := by
      refine cmul_r ?_
      rw [List.getD_eq_getElem?_getD, List.getElem?_eq_getElem hlt]
      have := h2 _ (List.getElem_mem hlt)
      exact Nat.lt_of_le_of_lt this (by decide)
    have hn0 : ¬ (ys.length : Int) = 0 := by omega
    obtain ⟨t', ih⟩ := sign_loop a x0 x1 x2 x3 u v M xs (s * ys.getD (a % ys.length) 0) (some (encR (b, ys))) fun x hx => hi x (List.mem_cons_of_mem _ hx)
    refine ⟨t', ?_⟩
    rw [List.map_cons, List.foldl_cons]
    unfold forL
    have hb : signB [x0, x1, x2, x3, some (.int a), some (.int s), some (encR (b, ys)), u, v] M = .nx [x0, x1, x2, x3, some (.int a), some (.int (s * ys.getD (a % ys.length) 0)), some (encR (b, ys)), u, v] M := by
      have hy : ys ≠ [] := List.length_pos_iff.mp h0
      clear ih hi
      generalize ys.getD (a % ys.length) 0 = vv at *
      generalize a % ys.length = j at *
      cases b <;> simp [encR, fmod_pos, hmod, hat, hq, hy]
    have hg : mName 6 (encR (b, ys)) [x0, x1, x2, x3, some (.int a), some (.int s), t, u, v] M = .ok [x0, x1, x2, x3, some (.int a), some (.int s), some (encR (b, ys)), u, v] M := by simp
    simp only [chk_nil, if_true, hg, hb]
    exact ih
noncomputable abbrev addB : SM := sSeq (sAsg (eBin false oAdd (eBin false oIx (eVar 3) (eVar 8)) (eVar 7)) (mSub (eVar 3) (eVar 8))) (sSet 7 (eBin false oMul (eVar 7) (eVar 4)))
theorem add_loop {chi : Nat → Int} {most i : Nat} (hi : i < 1000000) (x0 x1 x2 x5 x6 t8 : Option D) (M : Mem) :
    ∃ t7 t8', forL [] (mName 8) addB (rangeD 0 (most + 1)) [x0, x1, x2, some (.loc M.length), some (.int (i + 1 : Nat)), x5, x6, some (.int (chi (i + 1))), t8] (M ++ [some (sums chi most i)]) =
      .nx [x0, x1, x2, some (.loc M.length), some (.int (i + 1 : Nat)), x5, x6, t7, t8'] (M ++ [some (sums chi most (i + 1))]) := by
  obtain ⟨τ3, M3, e3, hM3, t7, u8, rfl, _⟩ := forL_range (g := mName 8) (b := addB) (lo := 0) (n := most + 1)
    (R := fun k τ M1 => M1 = M ++ [some (sumsAt chi most i k)] ∧ ∃ t7 t8, τ = [x0, x1, x2, some (.loc M.length), some (.int (i + 1 : Nat)), x5, x6, t7, t8] ∧ t7 = some (.int (chi (i + 1) * ((i + 1 : Nat) : Int) ^ k)))
    (fun k τ M1 hk hR => by
      obtain ⟨rfl, t7, t8, rfl, rfl⟩ := hR
      have hat := sumsAt_at (chi := chi) (most := most) (i := i) hk
      have hset := sumsAt_set (chi := chi) (most := most) (i := i) hk
      have hix : ixN (sumsAt chi most i k).length (k : Int) = some k := by
        rw [sumsAt_len]
        have := ixN_of (n := most + 1) (i := (k : Int)) (by omega) (by omega)
        rw [this, Int.toNat_natCast]
      have hq : ∀ x, CMulG x ((i + 1 : Nat) : Int) := fun x => cmul_r (by rw [Int.natAbs_natCast]; omega)
      have hp1 : ((i + 1 : Nat) : Int) ^ (k + 1) = ((i + 1 : Nat) : Int) ^ k * ((i + 1 : Nat) : Int) := Int.pow_succ _ _
      generalize ((i + 1 : Nat) : Int) = a at *
      have hloc : seqOf (.loc M.length) (M ++ [some (sumsAt chi most i k)]) = some { xs := sumsAt chi most i k, src := [(M.length, sumsAt chi most i k)] } := seqOf_loc (memAt_app _ _)
      refine ⟨[x0, x1, x2, some (.loc M.length), some (.int a), x5, x6, some (.int (chi (i + 1) * a ^ k)), some (.int k)], M ++ [some (sumsAt chi most i k)], [x0, x1, x2, some (.loc M.length), some (.int a), x5, x6, some (.int (chi (i + 1) * a ^ (k + 1))), some (.int k)], M ++ [some (sumsAt chi most i (k + 1))], by simp, .inl ?_, rfl, _, _, rfl, rfl⟩
      simp [hloc, hat, hix, hset, hq, hp1, Int.mul_assoc])
    (τ := [x0, x1, x2, some (.loc M.length), some (.int (i + 1 : Nat)), x5, x6, some (.int (chi (i + 1))), t8]) (M := M ++ [some (sumsAt chi most i 0)]) ⟨rfl, _, _, rfl, by simp⟩
  rw [hM3, sumsAt_zero, sumsAt_fin] at e3
  exact ⟨t7, u8, e3⟩
theorem powerSums_spec {d : Int} {most : Nat} (hd : d ≠ 0) (hd2 : d.natAbs < 1000000) (hm : most < 100) {r : List Int} (he : e8 (leftOf d) = some r) (M : Mem) :
    c_power_sums [.int d, .int most] M = .ok (.lst (sums (chiR (rowsI d r)) most d.natAbs)) M := by
  have hp := periods_spec hd hd2 he M
  rw [rowsI_enc] at hp
  generalize hrows : rowsI d r = rows at *
  have hsm : ∀ x ∈ rows, 0 < x.2.length ∧ x.2.length < 2 ^ 32 ∧ ∀ y ∈ x.2, y.natAbs ≤ 1 := by
    intro x hx
    rw [← hrows] at hx
    rcases List.mem_cons.mp hx with rfl | hx
    · have := e8_small he
      exact ⟨by dsimp only; omega, by dsimp only; omega, this.2⟩
    · obtain ⟨p, hp, rfl⟩ := List.mem_map.mp hx
      have := T_mem (n := d.natAbs) (by omega) (List.mem_filter.mp hp).1
      refine ⟨by simp; omega, by simp; omega, fun y hy => ?_⟩
      obtain ⟨z, _, rfl⟩ := List.mem_map.mp hy
      exact qr_small p z
  have hmr : rngOk ((most : Int) + 1) := rngOk_of (by omega) (by omega)
  have hmn : ((most : Int) + 1).toNat = most + 1 := by omega
  obtain ⟨τ', M', e, hM', t1, t2, t3, t4, t5, rfl⟩ := forL_range (g := mName 4) (b := (sSeq (sSet 5 (eC (.int 1))) (sSeq (sFor (iSeq (eVar 2)) (mName 6) signB) (sIf (asT (eVar 5)) (sSeq (sSet 7 (eVar 5)) (sFor (iRange1 (aCons (eBin false oAdd (eVar 1) (eC (.int 1))) aNil)) (mName 8) addB)) sNil)))) (lo := 1) (n := d.natAbs)
    (R := fun i τ M1 => M1 = M ++ [some (sums (chiR rows) most i)] ∧ ∃ t1 t2 t3 t4 t5, τ = [some (.int d), some (.int most), some (.lst (rows.map encR)), some (.loc M.length), t1, t2, t3, t4, t5])
    (fun i τ M1 hi hR => by
      obtain ⟨rfl, t1, t2, t3, t4, t5, rfl⟩ := hR
      have ha : (1 : Int) + (i : Int) = ((i + 1 : Nat) : Int) := by omega
      obtain ⟨u6, e2⟩ := sign_loop (i + 1) (some (.int d)) (some (.int most)) (some (.lst (rows.map encR))) (some (.loc M.length)) t4 t5 (M ++ [some (sums (chiR rows) most i)]) rows 1 t3 hsm
      have hc : rows.foldl (fun s x => s * x.2.getD ((i + 1) % x.2.length) 0) 1 = chiR rows (i + 1) := rfl
      rw [hc] at e2
      rw [ha]
      obtain ⟨u7, u8, e3⟩ := add_loop (chi := chiR rows) (most := most) (i := i) (by omega) (some (.int d)) (some (.int most)) (some (.lst (rows.map encR))) (some (.int (chiR rows (i + 1)))) u6 t5 M
      by_cases hz : chiR rows (i + 1) = 0
      · have hS : sums (chiR rows) most (i + 1) = sums (chiR rows) most i := by
          unfold sums
          have : ∀ j, S (chiR rows) (i + 1) j = S (chiR rows) i j := fun j => by
            show S (chiR rows) i j + chiR rows (i + 1) * _ = _
            rw [hz, Int.zero_mul, Int.add_zero]
          simp only [this]
        rw [hS]
        generalize ((i + 1 : Nat) : Int) = a at *
        refine ⟨[some (.int d), some (.int most), some (.lst (rows.map encR)), some (.loc M.length), some (.int a), t2, t3, t4, t5], M ++ [some (sums (chiR rows) most i)], [some (.int d), some (.int most), some (.lst (rows.map encR)), some (.loc M.length), some (.int a), some (.int (chiR rows (i + 1))), u6, t4, t5], M ++ [some (sums (chiR rows) most i)], by simp, .inl ?_, rfl, _, _, _, _, _, rfl⟩
        rw [hz] at e2 ⊢
        simp [e2]
      · generalize ((i + 1 : Nat) : Int) = a at *
        refine ⟨[some (.int d), some (.int most), some (.lst (rows.map encR)), some (.loc M.length), some (.int a), t2, t3, t4, t5], M ++ [some (sums (chiR rows) most i)], [some (.int d), some (.int most), some (.lst (rows.map encR)), some (.loc M.length), some (.int a), some (.int (chiR rows (i + 1))), u6, u7, u8], M ++ [some (sums (chiR rows) most (i + 1))], by simp, .inl ?_, rfl, _, _, _, _, _, rfl⟩
        simp [e2, hz, hmr, hmn, e3])
    (τ := [some (.int d), some (.int most), some (.lst (rows.map encR)), some (.loc M.length), none, none, none, none, none]) (M := M ++ [some (sums (chiR rows) most 0)]) ⟨rfl, _, _, _, _, _, rfl⟩
  rw [hM'] at e
  have hr : repOk 1 ((most : Int) + 1) := repOk_of (by omega) (by omega) (by simp; omega)
  have q : ∀ i : Int, (if i < 0 then -i else i) = (i.natAbs : Int) := fun i => by split <;> omega
  have hrd : rngOk ((d.natAbs : Int) + 1) := rngOk_of (by omega) (by omega)
  have hnd : ((d.natAbs : Int) + 1 - 1).toNat = d.natAbs := by omega
  have hz : List.replicate (most + 1) (D.int 0) = sums (chiR rows) most 0 := by
    unfold sums S
    simp [List.map_const']
  have fin : endT M (.rt (.loc M.length) (M ++ [some (sums (chiR rows) most d.natAbs)])) = .ok (.lst (sums (chiR rows) most d.natAbs)) M := by
    have hs : sums (chiR rows) most d.natAbs = ((List.range (most + 1)).map fun j => S (chiR rows) d.natAbs j).map .int := by simp [sums]
    rw [hs]
    exact trunc_app (fz_ints (Nat.le_refl _) (by simp [memAt]))
  unfold c_power_sums m_power_sums
  simp [startD, hp, hr, hmn, hz, q, hrd, hnd, e, fin]
end K45

namespace NT
def numB : List (Int × Int) := [(1, 1), (-1, 2), (1, 6), (0, 1), (-1, 30), (0, 1), (1, 42), (0, 1), (-1, 30)]
def nb (m : Nat) : Int × Int := numB.getD m (0, 1)
def nbQ (m : Nat) : Rat := Rat.divInt (nb m).1 (nb m).2
def comb (k j : Nat) : Int := PySem.W.mcComb k j
/-- the program's number -/
def term (k : Nat) (f : Int) (s : Int) (j : Nat) : Rat := Rat.divInt (comb k j * s * f ^ (k - 1)) (f ^ j) * nbQ (k - j)
def sumQ (F : Nat → Rat) : Nat → Rat
  | 0 => 0
  | n + 1 => sumQ F n + F n
def progB (k : Nat) (d : Int) (r : List Int) : Rat := sumQ (fun j => term k (d.natAbs : Int) (S (chiR (rowsI d r)) d.natAbs j) j) (k + 1)
theorem chi_small {rows : List (Bool × List Int)} (h : ∀ x ∈ rows, ∀ y ∈ x.2, y.natAbs ≤ 1) (a : Nat) : (chiR rows a).natAbs ≤ 1 := by
  unfold chiR
  have : ∀ (rows : List (Bool × List Int)) (s : Int), (∀ x ∈ rows, ∀ y ∈ x.2, y.natAbs ≤ 1) → s.natAbs ≤ 1 → (rows.foldl (fun s x => s * x.2.getD (a % x.2.length) 0) s).natAbs ≤ 1 := by
    intro rows
    induction rows with
    | nil => exact fun s _ h => h
    | cons x xs ih =>
      intro s hx hs
      refine ih _ (fun y hy => hx y (List.mem_cons_of_mem _ hy)) ?_
      rw [Int.natAbs_mul]
      have : (x.2.getD (a % x.2.length) 0).natAbs ≤ 1 := by
        rw [List.getD_eq_getElem?_getD]
        cases e : x.2[a % x.2.length]? with
        | none => simp
        | some y => exact hx x List.mem_cons_self y (List.mem_of_getElem? e)
      calc s.natAbs * _ ≤ 1 * 1 := Nat.mul_le_mul hs this
        _ = 1 := rfl
  exact this rows 1 h (by decide)
theorem S_small {chi : Nat → Int} (h : ∀ a, (chi a).natAbs ≤ 1) (j f : Nat) : ∀ i, i ≤ f → (S chi i j).natAbs ≤ i * f ^ j
  | 0, _ => by simp [S]
  | i + 1, hi => by
    have ih := S_small h j f i (by omega)
    show (S chi i j + chi (i + 1) * ((i + 1 : Nat) : Int) ^ j).natAbs ≤ _
    refine Nat.le_trans (Int.natAbs_add_le _ _) ?_
    rw [Int.natAbs_mul, Int.natAbs_pow, Int.natAbs_natCast, Nat.succ_mul]
    have h1 : (i + 1) ^ j ≤ f ^ j := Nat.pow_le_pow_left hi j
    have h2 : (chi (i + 1)).natAbs * (i + 1) ^ j ≤ 1 * f ^ j := Nat.mul_le_mul (h _) h1
    omega
end NT
namespace K45
open PySem PySem.Spec PyProof.Rows L2 DM Sh NT
theorem numbers_at : ∀ m : Nat, m ≤ 8 → atI ([.kt [.int 1, .int 1], .kt [.int (-1), .int 2], .kt [.int 1, .int 6], .kt [.int 0, .int 1], .kt [.int (-1), .int 30], .kt [.int 0, .int 1], .kt [.int 1, .int 42], .kt [.int 0, .int 1], .kt [.int (-1), .int 30]] : List D) (m : Int) = some (.kt [.int (nb m).1, .int (nb m).2])
  | 0, _ => rfl
  | 1, _ => rfl
  | 2, _ => rfl
  | 3, _ => rfl
  | 4, _ => rfl
  | 5, _ => rfl
  | 6, _ => rfl
  | 7, _ => rfl
  | 8, _ => rfl
  | m + 9, h => by omega
theorem nb_lg : ∀ m : Nat, m ≤ 8 → Lg 10 (nb m).1 (nb m).2 := by
  have : ∀ m : Fin 9, (nb m).2 ≠ 0 ∧ (nb m).1.natAbs.log2 ≤ 10 ∧ (nb m).2.natAbs.log2 ≤ 10 := by decide +kernel
  exact fun m h => ⟨(this ⟨m, by omega⟩).1, (this ⟨m, by omega⟩).2.1, (this ⟨m, by omega⟩).2.2⟩
theorem comb_lg {k j : Nat} (hk : k ≤ 8) (hj : j ≤ 8) : (comb k j).natAbs < 2 ^ 10 := by
  have : ∀ (k j : Fin 9), (comb k j).natAbs < 2 ^ 10 := by decide +kernel
  exact this ⟨k, by omega⟩ ⟨j, by omega⟩
theorem timesKt_spec {a b c d : Int} {k : Nat} (h1 : Lg k a b) (h2 : Lg k c d) (hk : k < 4000) (M : Mem) : c_times_of [pair a b, .kt [.int c, .int d]] M = .ok (encQ (Rat.divInt a b * Rat.divInt c d)) M := by
  obtain ⟨b0, la, lb⟩ := h1
  obtain ⟨d0, lc, ld⟩ := h2
  rw [Rat.divInt_mul_divInt]
  have q1 : CMulG a c := cmul_lg (by omega) (by omega)
  have q3 : CMulG b d := cmul_lg (by omega) (by omega)
  have l1 := lg_mul (a := b) (b := d)
  have := fraction_spec (n := a * c) (d := b * d) (Int.mul_ne_zero b0 d0) (by omega) M
  unfold c_times_of m_times_of
  simp [startD, pair, q1, q3, this]
theorem pow_log {f n : Nat} (hf : f < 2 ^ 20) (hn : n ≤ 9) : (f ^ n).log2 ≤ 180 := by
  by_cases h0 : f = 0
  · subst h0
    cases n with
    | zero => decide
    | succ n => rw [Nat.pow_succ]; simp
  · have : f ^ n < 2 ^ 181 := by
      calc f ^ n ≤ (2 ^ 20) ^ n := Nat.pow_le_pow_left (Nat.le_of_lt hf) n
        _ = 2 ^ (20 * n) := by rw [← Nat.pow_mul]
        _ ≤ 2 ^ 180 := Nat.pow_le_pow_right (by decide) (by omega)
        _ < 2 ^ 181 := Nat.pow_lt_pow_right (by decide) (by decide)
    have := log2_lt (k := 181) (by decide) this
    omega
theorem sm_zero : Sm 0 0 := ⟨by decide +kernel, by decide +kernel⟩
theorem bernoulli_spec {k : Nat} {d : Int} (hk : 1 ≤ k ∧ k ≤ 8) (hd : d ≠ 0) (hd2 : d.natAbs < 1000000) {r : List Int} (he : e8 (leftOf d) = some r) (M : Mem) :
    c_bernoulli_of [.int k, .int d] M = .ok (encQ (progB k d r)) M := by
  have hp := powerSums_spec (most := k) hd hd2 (by omega) he M
  unfold progB
  have hchi : ∀ a, (chiR (rowsI d r) a).natAbs ≤ 1 := by
    refine chi_small fun x hx y hy => ?_
    rcases List.mem_cons.mp hx with rfl | hx
    · exact (e8_small he).2 y hy
    · obtain ⟨p, hp, rfl⟩ := List.mem_map.mp hx
      obtain ⟨z, _, rfl⟩ := List.mem_map.mp hy
      exact qr_small p z
  generalize hf : d.natAbs = f at *
  have hS : ∀ j, (S (chiR (rowsI d r)) f j).natAbs ≤ f * f ^ j := fun j => S_small hchi j f f (Nat.le_refl _)
  unfold sums at hp
  generalize hs : (fun j => S (chiR (rowsI d r)) f j) = s at *
  have hs' : ∀ j, S (chiR (rowsI d r)) f j = s j := fun j => by rw [← hs]
  simp only [hs'] at hp hS ⊢
  have hf0 : 0 < f := by omega
  have hpart : ∀ j, j ≤ k → Lg 400 (comb k j * s j * (f : Int) ^ (k - 1)) ((f : Int) ^ j) := fun j hj => by
    have h1 := comb_lg (k := k) (j := j) (by omega) (by omega)
    have h1' := log2_lt (by decide) h1
    have h2 := log2_mono (hS j)
    have h3 : f * f ^ j = f ^ (j + 1) := by rw [Nat.pow_succ, Nat.mul_comm]
    rw [h3] at h2
    have h4 := pow_log (f := f) (n := j + 1) (by omega) (by omega)
    have h5 := pow_log (f := f) (n := k - 1) (by omega) (by omega)
    have h6 := pow_log (f := f) (n := j) (by omega) (by omega)
    have l1 := lg_mul (a := comb k j) (b := s j)
    have l2 := lg_mul (a := comb k j * s j) (b := (f : Int) ^ (k - 1))
    have e1 : ((f : Int) ^ (k - 1)).natAbs = f ^ (k - 1) := by rw [Int.natAbs_pow, Int.natAbs_natCast]
    have e2 : ((f : Int) ^ j).natAbs = f ^ j := by rw [Int.natAbs_pow, Int.natAbs_natCast]
    have e3 : 0 < f ^ j := Nat.pow_pos hf0
    rw [e1] at l2
    exact ⟨by omega, by omega, by rw [e2]; omega⟩
  have hterm : ∀ j, j ≤ k → Sm 411 (term k f (s j) j) := fun j hj => by
    have h1 := sm_divInt (hpart j hj)
    have h2 := sm_divInt (nb_lg (k - j) (by omega))
    exact h1.mul h2
  have hpl : seqOf (.lst ((List.range (k + 1)).map fun j => D.int (s j))) M = some { xs := (List.range (k + 1)).map fun j => D.int (s j) } := rfl
  obtain ⟨τ', M', e, rfl, ⟨t1, t2, t3, rfl⟩, _⟩ := forL_idx (src := []) (g := mTup 2 (mCons (mName 4) (mCons (mName 5) mNil)))
    (b := (sSeq (sSet 6 (eCall 2 (c_fraction) (aCons (eBin false oMul (eBin false oMul (eArgs false oComb (aCons (eVar 0) (aCons (eVar 4) aNil))) (eVar 5)) (eCall 2 (Sh.c_power) (aCons (eVar 2) (aCons (eBin false oSub (eVar 0) (eC (.int 1))) aNil)))) (aCons (eCall 2 (Sh.c_power) (aCons (eVar 2) (aCons (eVar 4) aNil))) aNil)))) (sSet 3 (eCall 2 (c_sum_of) (aCons (eVar 3) (aCons (eCall 2 (c_times_of) (aCons (eVar 6) (aCons (eBin false oIx (eC k_NUMBERS) (eBin false oSub (eVar 0) (eVar 4))) aNil))) aNil))))))
    (enc := fun j => .tup [.int j, .int (s j)]) (n := k + 1)
    (R := fun i τ M1 => M1 = M ∧ (∃ t1 t2 t3, τ = [some (.int k), some (.int d), some (.int f), some (encQ (sumQ (fun j => term k f (s j) j) i)), t1, t2, t3]) ∧ Sm (i * 413) (sumQ (fun j => term k f (s j) j) i))
    (fun j τ M1 hj hR => by
      obtain ⟨rfl, ⟨t1, t2, t3, rfl⟩, hsm⟩ := hR
      have hj' : j ≤ k := by omega
      have hsm2 := hsm.add (hterm j hj')
      refine ⟨by simp, [some (.int k), some (.int d), some (.int f), some (encQ (sumQ (fun j => term k f (s j) j) j)), some (.int j), some (.int (s j)), t3], M1, [some (.int k), some (.int d), some (.int f), some (encQ (sumQ (fun j => term k f (s j) j) (j + 1))), some (.int j), some (.int (s j)), some (encQ (Rat.divInt (comb k j * s j * (f : Int) ^ (k - 1)) ((f : Int) ^ j)))], M1, by simp, .inl ?_, rfl, ⟨_, _, _, rfl⟩, hsm2.mono (by omega)⟩
      have hlg := hpart j hj'
      have c1 : PySem.W.mcComb (k : Int) (j : Int) = comb k j := rfl
      have h1 := comb_lg (k := k) (j := j) (by omega) (by omega)
      have q1 : CMulG (comb k j) (s j) := cmul_l (by omega)
      have ek : (k : Int) - 1 = ((k - 1 : Nat) : Int) := by omega
      have ekj : (k : Int) - (j : Int) = ((k - j : Nat) : Int) := by omega
      have p1 := Sh.power_spec (b := (f : Int)) (n := k - 1) (by rw [Int.natAbs_natCast]; omega) (by omega) M1
      have p2 := Sh.power_spec (b := (f : Int)) (n := j) (by rw [Int.natAbs_natCast]; omega) (by omega) M1
      have q2 : CMulG (comb k j * s j) ((f : Int) ^ (k - 1)) := by
        have e1 : ((f : Int) ^ (k - 1)).natAbs = f ^ (k - 1) := by rw [Int.natAbs_pow, Int.natAbs_natCast]
        have h5 := pow_log (f := f) (n := k - 1) (by omega) (by omega)
        have h2 := log2_mono (hS j)
        have h3 : f * f ^ j = f ^ (j + 1) := by rw [Nat.pow_succ, Nat.mul_comm]
        rw [h3] at h2
        have h4 := pow_log (f := f) (n := j + 1) (by omega) (by omega)
        have l1 := lg_mul (a := comb k j) (b := s j)
        have h1' := log2_lt (by decide) h1
        exact .inl (by rw [e1]; omega)
      have fr := fraction_spec (n := comb k j * s j * (f : Int) ^ (k - 1)) (d := (f : Int) ^ j) hlg.b0 (by have := hlg.lb; omega) M1
      have hq := sm_divInt hlg
      have tm := timesKt_spec (k := 400) hq.lg ((nb_lg (k - j) (by omega)).mono (by omega)) (by omega) M1
      rw [divInt_self'] at tm
      have hnum := numbers_at (k - j) (by omega)
      have sm := sum_spec (k := 3900) (hsm.lg.mono (by omega)) ((hterm j hj').lg.mono (by omega)) (by omega) M1
      rw [divInt_self', divInt_self', ← encQ_pair, ← encQ_pair] at sm
      rw [← encQ_pair] at tm
      have htd : Rat.divInt (comb k j * s j * (f : Int) ^ (k - 1)) ((f : Int) ^ j) * Rat.divInt (nb (k - j)).1 (nb (k - j)).2 = term k f (s j) j := rfl
      rw [htd] at tm
      have hsu : sumQ (fun j => term k f (s j) j) j + term k f (s j) j = sumQ (fun j => term k f (s j) j) (j + 1) := rfl
      rw [hsu] at sm
      generalize hcm : comb k j = cm at *
      generalize encQ (sumQ (fun j => term k f (s j) j) j) = D1 at *
      generalize encQ (sumQ (fun j => term k f (s j) j) (j + 1)) = D2 at *
      generalize encQ (term k f (s j) j) = D3 at *
      have z1 : (k : Int) ≤ 18000 := by omega
      simp [z1, c1, q1, ek, p1, p2, q2, fr, ekj, hnum, tm, sm])
    (fun _ _ _ => by simp) (τ := [some (.int k), some (.int d), some (.int f), some (encQ 0), none, none, none]) (M := M) ⟨rfl, ⟨_, _, _, rfl⟩, sm_zero.mono (Nat.zero_le _)⟩
  have q : ∀ i : Int, (if i < 0 then -i else i) = (i.natAbs : Int) := fun i => by split <;> omega
  have en := enumD_range (fun j => D.int (s j)) (k + 1)
  have e0 : encQ 0 = .tup [.int 0, .int 1] := rfl
  rw [e0] at e
  generalize encQ (sumQ (fun j => term k f (s j) j) (k + 1)) = D2 at *
  generalize k + 1 = k1 at *
  unfold c_bernoulli_of m_bernoulli_of
  simp [startD, q, hf, hp, en, e]
end K45

namespace NT
def polyUp (row : List Rat) (j : Nat) : List Rat := 0 :: (List.range j).map fun i => row.getD i 0 * Rat.divInt j ((i + 1 : Nat) : Int)
def polyMean (up : List Rat) (j : Nat) : Rat := sumQ (fun i => up.getD i 0 * Rat.divInt 1 ((i + 1 : Nat) : Int)) (j + 1)
def polyRow : Nat → List Rat
  | 0 => [1]
  | j + 1 => (polyUp (polyRow j) (j + 1)).set 0 (polyMean (polyUp (polyRow j) (j + 1)) (j + 1) * Rat.divInt (-1) 1)
def smB (k : Nat) (q : Rat) : Bool := decide (q.num.natAbs.log2 ≤ k ∧ q.den.log2 ≤ k)
theorem polyRow_sm : ∀ j : Fin 9, (polyRow j).all (smB 20) = true := by decide +kernel
theorem polyRow_len : ∀ j : Nat, (polyRow j).length = j + 1
  | 0 => rfl
  | j + 1 => by simp [polyRow, polyUp]
end NT
namespace K45
open PySem PySem.Spec PyProof.Rows L2 DM Sh NT
theorem poly_sm {j : Nat} (hj : j ≤ 8) : ∀ q ∈ polyRow j, Sm 20 q := fun q hq => by
  have := List.all_eq_true.mp (polyRow_sm ⟨j, by omega⟩) q hq
  have := of_decide_eq_true this
  exact ⟨this.1, this.2⟩
theorem fz_loc5 {M : Mem} {n l : Nat} {ds : List D} (hl : n ≤ l) (h : memAt M l = some ds) (hk : ds.mapM (fzD M n 5) = some ds) : fz M n (.loc l) = some (.lst ds) := by
  unfold fz
  rw [if_neg (by simp; omega)]
  show (if l < n then some (D.loc l) else (memAt M l).bind fun ds => (ds.mapM (fzD M n 5)).map D.lst) = _
  rw [if_neg (by omega), h]
  show (ds.mapM (fzD M n 5)).map D.lst = _
  rw [hk]
  rfl
theorem fz_encQ {M : Mem} {n l : Nat} {qs : List Rat} (hl : n ≤ l) (h : memAt M l = some (qs.map encQ)) : fz M n (.loc l) = some (.lst (qs.map encQ)) := by
  refine fz_loc5 hl h (mapM_some fun d hd => ?_)
  obtain ⟨q, _, rfl⟩ := List.mem_map.mp hd
  rfl
theorem encQ_at {qs : List Rat} {i : Nat} (h : i < qs.length) : atI (qs.map encQ) (i : Int) = some (encQ (qs.getD i 0)) := by
  refine atI_nat ?_
  rw [List.getElem?_map, List.getElem?_eq_getElem h, List.getD_eq_getElem?_getD, List.getElem?_eq_getElem h]
  rfl
theorem getD_mem {qs : List Rat} {i : Nat} (h : i < qs.length) : qs.getD i 0 ∈ qs := by
  rw [List.getD_eq_getElem?_getD, List.getElem?_eq_getElem h]
  exact List.getElem_mem h
theorem up_len (row : List Rat) (j : Nat) : (polyUp row j).length = j + 1 := by simp [polyUp]
theorem lg_small {a b : Int} (ha : a.natAbs < 2 ^ 11) (hb : b.natAbs < 2 ^ 11) (h0 : b ≠ 0) : Lg 10 a b := by
  have h1 := log2_lt (k := 11) (by decide) ha
  have h2 := log2_lt (k := 11) (by decide) hb
  exact ⟨h0, by omega, by omega⟩
noncomputable abbrev meanB : SM := sSet 3 (eCall 2 (c__law_plus) (aCons (eVar 3) (aCons (eCall 2 (c__law_times) (aCons (eBin false oIx (eVar 1) (eVar 4)) (aCons (eArgs false oTup (aCons (eC (.int 1)) (aCons (eBin false oAdd (eVar 4) (eC (.int 1))) aNil))) aNil))) aNil)))
theorem mean_loop {up : List Rat} {j l : Nat} (hj : j ≤ 8) (hl : up.length = j + 1) (hs : ∀ q ∈ up, Sm 40 q) (x0 x2 t : Option D) (M : Mem) (hm : memAt M l = some (up.map encQ)) :
    ∃ t', forL [] (mName 4) meanB (rangeD 0 (j + 1)) [x0, some (.loc l), x2, some (encQ 0), t] M = .nx [x0, some (.loc l), x2, some (encQ (polyMean up j)), t'] M := by
  obtain ⟨τ', M', e, rfl, ⟨t', rfl⟩, _⟩ := forL_range (g := mName 4) (b := meanB) (lo := 0) (n := j + 1)
    (R := fun i τ M1 => M1 = M ∧ (∃ t, τ = [x0, some (.loc l), x2, some (encQ (sumQ (fun i => up.getD i 0 * Rat.divInt 1 ((i + 1 : Nat) : Int)) i)), t]) ∧ Sm (i * 55) (sumQ (fun i => up.getD i 0 * Rat.divInt 1 ((i + 1 : Nat) : Int)) i))
    (fun i τ M1 hi hR => by
      obtain ⟨rfl, ⟨t, rfl⟩, hsm⟩ := hR
      have hq := hs _ (getD_mem (qs := up) (i := i) (by omega))
      have l1 : Lg 10 1 ((i + 1 : Nat) : Int) := lg_small (by decide) (by rw [Int.natAbs_natCast]; omega) (by omega)
      have ht := ltimes_spec (k := 100) (hq.lg.mono (by omega)) (l1.mono (by omega)) (by omega) M1
      rw [divInt_self'] at ht
      have hsm1 := hq.mul (sm_divInt l1)
      have hp := plus_spec (k := 3900) (hsm.lg.mono (by omega)) (hsm1.lg.mono (by omega)) (by omega) M1
      rw [divInt_self', divInt_self', ← encQ_pair, ← encQ_pair] at hp
      rw [← encQ_pair] at ht
      have hsu : sumQ (fun i => up.getD i 0 * Rat.divInt 1 ((i + 1 : Nat) : Int)) i + up.getD i 0 * Rat.divInt 1 ((i + 1 : Nat) : Int) = sumQ (fun i => up.getD i 0 * Rat.divInt 1 ((i + 1 : Nat) : Int)) (i + 1) := rfl
      have hsm2 := hsm.add hsm1
      rw [hsu] at hp hsm2
      have hat := encQ_at (qs := up) (i := i) (by omega)
      have hi1 : ((i + 1 : Nat) : Int) = (i : Int) + 1 := rfl
      refine ⟨[x0, some (.loc l), x2, some (encQ (sumQ (fun i => up.getD i 0 * Rat.divInt 1 ((i + 1 : Nat) : Int)) i)), some (.int i)], M1, [x0, some (.loc l), x2, some (encQ (sumQ (fun i => up.getD i 0 * Rat.divInt 1 ((i + 1 : Nat) : Int)) (i + 1))), some (.int i)], M1, by simp, .inl ?_, rfl, ⟨_, rfl⟩, hsm2.mono (by omega)⟩
      generalize encQ (sumQ (fun i => up.getD i 0 * Rat.divInt 1 ((i + 1 : Nat) : Int)) i) = D1 at *
      generalize encQ (sumQ (fun i => up.getD i 0 * Rat.divInt 1 ((i + 1 : Nat) : Int)) (i + 1)) = D2 at *
      generalize encQ (up.getD i 0 * Rat.divInt 1 ((i + 1 : Nat) : Int)) = D3 at *
      generalize encQ (up.getD i 0) = D4 at *
      rw [hi1] at ht
      unfold pair at ht
      have hloc := seqOf_loc hm
      simp [hloc, hat, ht, hp])
    (τ := [x0, some (.loc l), x2, some (encQ 0), t]) (M := M) ⟨rfl, ⟨_, rfl⟩, sm_zero.mono (Nat.zero_le _)⟩
  exact ⟨t', e⟩
theorem up_comp {row : List Rat} {j l : Nat} (hj : 1 ≤ j ∧ j ≤ 8) (hl : row.length = j) (hs : ∀ q ∈ row, Sm 20 q) (x0 x3 : Option D) (M : Mem) (hm : memAt M l = some (row.map encQ)) :
    lcL [] (mName 4) mYes (eCall 2 (c__law_times) (aCons (eBin false oIx (eVar 1) (eVar 4)) (aCons (eArgs false oTup (aCons (eVar 2) (aCons (eBin false oAdd (eVar 4) (eC (.int 1))) aNil))) aNil))) (rangeD 0 j) [x0, some (.loc l), some (.int j), x3, none] M =
      .ok ((List.range j).map fun i => encQ (row.getD i 0 * Rat.divInt j ((i + 1 : Nat) : Int))) M := by
  rw [rangeD_eq]
  refine lcL_all (by simp) (List.range j) fun i hi => ⟨[x0, some (.loc l), some (.int j), x3, some (.int i)], by simp, ?_⟩
  have hi : i < j := by simpa using hi
  have hq := hs _ (getD_mem (qs := row) (i := i) (by omega))
  have l1 : Lg 10 (j : Int) ((i + 1 : Nat) : Int) := lg_small (by rw [Int.natAbs_natCast]; omega) (by rw [Int.natAbs_natCast]; omega) (by omega)
  have ht := ltimes_spec (k := 100) (hq.lg.mono (by omega)) (l1.mono (by omega)) (by omega) M
  rw [divInt_self', ← encQ_pair] at ht
  have hat := encQ_at (qs := row) (i := i) (by omega)
  have hi1 : ((i + 1 : Nat) : Int) = (i : Int) + 1 := rfl
  generalize encQ (row.getD i 0 * Rat.divInt j ((i + 1 : Nat) : Int)) = D3 at *
  generalize encQ (row.getD i 0) = D4 at *
  rw [hi1] at ht
  unfold pair at ht
  have hloc := seqOf_loc hm
  simp [hloc, hat, ht]
theorem polynomial_spec {k : Nat} (hk : 1 ≤ k ∧ k ≤ 8) (M : Mem) : c__law_polynomial [.int k] M = .ok (.lst ((polyRow k).map encQ)) M := by
  obtain ⟨τ', M', e, o, l, rfl, hl, hm, t2, t3, t4, rfl⟩ := forL_range (g := mName 2)
    (b := (sSeq (sSet 1 (eBin true oAdd (eArgs false oLst (aCons (eArgs false oTup (aCons (eC (.int 0)) (aCons (eC (.int 1)) aNil))) aNil)) (eLc false (iRange1 (aCons (eVar 2) aNil)) (mName 4) mYes (eCall 2 (c__law_times) (aCons (eBin false oIx (eVar 1) (eVar 4)) (aCons (eArgs false oTup (aCons (eVar 2) (aCons (eBin false oAdd (eVar 4) (eC (.int 1))) aNil))) aNil))) [4]))) (sSeq (sSet 3 (eArgs false oTup (aCons (eC (.int 0)) (aCons (eC (.int 1)) aNil)))) (sSeq (sFor (iRange1 (aCons (eBin false oAdd (eVar 2) (eC (.int 1))) aNil)) (mName 4) meanB) (sAsg (eCall 2 (c__law_times) (aCons (eVar 3) (aCons (eArgs false oTup (aCons (eUn false oNeg (eC (.int 1))) (aCons (eC (.int 1)) aNil))) aNil))) (mSub (eVar 1) (eC (.int 0))))))))
    (lo := 1) (n := k)
    (R := fun j τ M1 => ∃ (o : Mem) (l : Nat), M1 = M ++ o ∧ M.length ≤ l ∧ memAt M1 l = some ((polyRow j).map encQ) ∧ ∃ t2 t3 t4, τ = [some (.int k), some (.loc l), t2, t3, t4])
    (fun j τ M1 hj hR => by
      obtain ⟨o, l, rfl, hl, hm, t2, t3, t4, rfl⟩ := hR
      have hj8 : j + 1 ≤ 8 := by omega
      have e1 : (1 : Int) + (j : Int) = ((j + 1 : Nat) : Int) := by omega
      have c1 := up_comp (j := j + 1) (by omega) (polyRow_len j) (poly_sm (by omega)) (some (.int k)) t3 _ hm
      have hup : (D.tup [.int 0, .int 1] :: (List.range (j + 1)).map fun i => encQ ((polyRow j).getD i 0 * Rat.divInt ((j + 1 : Nat) : Int) ((i + 1 : Nat) : Int))) = (polyUp (polyRow j) (j + 1)).map encQ := by
        have e0 : encQ 0 = .tup [.int 0, .int 1] := rfl
        simp [polyUp, e0]
      generalize hU : polyUp (polyRow j) (j + 1) = up at *
      have hulen : up.length = j + 2 := by rw [← hU, up_len]
      have hus : ∀ q ∈ up, Sm 40 q := fun q hq => by
        rw [← hU] at hq
        rcases List.mem_cons.mp hq with rfl | hq
        · exact sm_zero.mono (by omega)
        · obtain ⟨i, hi, rfl⟩ := List.mem_map.mp hq
          have hi : i < j + 1 := by simpa using hi
          have h1 := poly_sm (j := j) (by omega) _ (getD_mem (qs := polyRow j) (i := i) (by rw [polyRow_len]; omega))
          have l1 : Lg 10 ((j + 1 : Nat) : Int) ((i + 1 : Nat) : Int) := lg_small (by rw [Int.natAbs_natCast]; omega) (by rw [Int.natAbs_natCast]; omega) (by omega)
          exact (h1.mul (sm_divInt l1)).mono (by omega)
      have hrow : polyRow (j + 1) = up.set 0 (polyMean up (j + 1) * Rat.divInt (-1) 1) := by
        show (polyUp (polyRow j) (j + 1)).set 0 (polyMean (polyUp (polyRow j) (j + 1)) (j + 1) * Rat.divInt (-1) 1) = _
        rw [hU]
      obtain ⟨t', mn⟩ := mean_loop (j := j + 1) hj8 hulen hus (some (.int k)) (some (.int (j + 1 : Nat))) t4 (M ++ o ++ [some (up.map encQ)]) (memAt_app _ _)
      have hmsm : Sm 900 (polyMean up (j + 1)) := by
        unfold polyMean
        have : ∀ n, n ≤ up.length → Sm (n * 55) (sumQ (fun i => up.getD i 0 * Rat.divInt 1 ((i + 1 : Nat) : Int)) n) := by
          intro n
          induction n with
          | zero => exact fun _ => sm_zero
          | succ n ih =>
            intro hn
            have l1 : Lg 10 1 ((n + 1 : Nat) : Int) := lg_small (by decide) (by rw [Int.natAbs_natCast]; omega) (by omega)
            have h1 := (hus _ (getD_mem (qs := up) (i := n) (by omega))).mul (sm_divInt l1)
            exact ((ih (by omega)).add h1).mono (by omega)
        exact (this (j + 1 + 1) (by omega)).mono (by omega)
      have tm := ltimes_spec (k := 900) hmsm.lg ((lg_small (a := -1) (b := 1) (by decide) (by decide) (by decide)).mono (by omega)) (by omega) (M ++ o ++ [some (up.map encQ)])
      rw [divInt_self', ← encQ_pair] at tm
      have hix : ixN up.length 0 = some 0 := by
        exact ixN_of (by omega) (by omega)
      have hset : (up.map encQ).set 0 (encQ (polyMean up (j + 1) * Rat.divInt (-1) 1)) = (polyRow (j + 1)).map encQ := by rw [hrow, List.map_set]
      have hrg : rngOk ((j + 1 : Nat) : Int) := rngOk_nat (by omega)
      have hrg2 : rngOk (((j + 1 : Nat) : Int) + 1) := rngOk_of (by omega) (by omega)
      have hn2 : (((j + 1 : Nat) : Int) + 1).toNat = j + 1 + 1 := by omega
      have hn1 : ((j + 1 : Nat) : Int).toNat = j + 1 := by omega
      have hz1 : j + 1 ≤ sizeLine := by show _ ≤ 16777216; omega
      have hz2 : 1 + (j + 1) ≤ sizeLine := by show _ ≤ 16777216; omega
      rw [e1]
      refine ⟨[some (.int k), some (.loc l), some (.int (j + 1 : Nat)), t3, t4], M ++ o, [some (.int k), some (.loc (M ++ o).length), some (.int (j + 1 : Nat)), some (encQ (polyMean up (j + 1))), t'], M ++ o ++ [some ((polyRow (j + 1)).map encQ)], by simp, .inl ?_, o ++ [some ((polyRow (j + 1)).map encQ)], (M ++ o).length, by rw [List.append_assoc], by simp, memAt_app _ _, _, _, _, rfl⟩
      have hmM := memAt_app (M ++ o) (up.map encQ)
      clear hus hmsm hm hulen hrow
      rw [encQ_pair] at mn
      have ez : pair (0 : Rat).num (0 : Rat).den = .tup [.int 0, .int 1] := rfl
      rw [ez] at mn
      unfold pair at tm
      generalize encQ (polyMean up (j + 1)) = D1 at *
      generalize encQ (polyMean up (j + 1) * Rat.divInt (-1) 1) = D2 at *
      have hul : ((List.range (j + 1)).map (fun i => encQ ((polyRow j).getD i 0 * Rat.divInt ((j + 1 : Nat) : Int) ((i + 1 : Nat) : Int)))).length = j + 1 := by simp
      generalize (List.range (j + 1)).map (fun i => encQ ((polyRow j).getD i 0 * Rat.divInt ((j + 1 : Nat) : Int) ((i + 1 : Nat) : Int))) = us at *
      generalize ((j + 1 : Nat) : Int) = ji at *
      generalize hMo : M ++ o = Mo at *
      simp [wipeD, hrg, hn1, hz1, c1, hul, hz2, hrg2, hn2, hup, mn, tm, hix, hset, hmM])
    (τ := [some (.int k), some (.loc M.length), none, none, none]) (M := M ++ [some [encQ 1]]) ⟨[some [encQ 1]], M.length, rfl, Nat.le_refl _, by simp; rfl, none, none, none, rfl⟩
  have hrg : rngOk ((k : Int) + 1) := rngOk_of (by omega) (by omega)
  have hk1 : ((k : Int) + 1 - 1).toNat = k := by omega
  have e1 : encQ 1 = .tup [.int 1, .int 1] := rfl
  have fin : endT M (.rt (.loc l) (M ++ o)) = .ok (.lst ((polyRow k).map encQ)) M := trunc_app (fz_encQ hl hm)
  rw [e1] at e
  unfold c__law_polynomial m__law_polynomial
  simp [startD, hrg, hk1, e, fin]
end K45

namespace NT
def horner (row : List Rat) (x : Rat) : Rat := row.foldr (fun c v => v * x + c) 0
def lawTerm (row : List Rat) (d : Int) (f i : Nat) : Rat := horner row (Rat.divInt ((i + 1 : Nat) : Int) (f : Int)) * Rat.divInt (chiL d (i + 1)) 1
def lawB (k : Nat) (d : Int) : Rat := sumQ (lawTerm (polyRow k) d d.natAbs) d.natAbs * Rat.divInt ((d.natAbs : Int) ^ (k - 1)) 1
/-- over a common denominator -/
def QB (D B : Nat) (q : Rat) : Prop := ∃ z : Int, q * (D : Rat) = (z : Rat) ∧ z.natAbs ≤ B
def qbB (q : Rat) : Bool := decide ((q * 210).den = 1 ∧ (q * 210).num.natAbs ≤ 2 ^ 20)
theorem polyRow_qb : ∀ j : Fin 9, (polyRow j).all qbB = true := by decide +kernel
theorem chiL_abs (d : Int) (a : Nat) : (chiL d a).natAbs ≤ 1 := by
  unfold chiL
  split
  · decide
  · have : ∀ (ps : List Nat) (f : Int), f.natAbs ≤ 1 → (ps.foldl (fun f p => f * sgnL d p ^ (vp p a).1) f).natAbs ≤ 1 := by
      intro ps
      induction ps with
      | nil => exact fun f h => h
      | cons p ps ih =>
        intro f h
        refine ih _ ?_
        rw [Int.natAbs_mul, Int.natAbs_pow]
        have : (sgnL d p).natAbs = 1 := by
          unfold sgnL
          split <;> split <;> rfl
        rw [this, Nat.one_pow, Nat.mul_one]
        exact h
    exact this _ 1 (by decide)
theorem horner_qb {a f : Nat} (h0 : 0 < f) (ha : a ≤ f) : ∀ row : List Rat, (∀ q ∈ row, ∃ w : Int, q * 210 = (w : Rat) ∧ w.natAbs ≤ 2 ^ 20) → QB (210 * f ^ row.length) (row.length * 2 ^ 20 * f ^ row.length) (horner row (Rat.divInt (a : Int) (f : Int)))
  | [], _ => ⟨0, by simp [horner], by simp⟩
  | c :: cs, h => by
    obtain ⟨z, hz, hb⟩ := horner_qb h0 ha cs fun q hq => h q (List.mem_cons_of_mem _ hq)
    obtain ⟨w, hw, hwb⟩ := h c List.mem_cons_self
    refine ⟨z * a + w * (f ^ (cs.length + 1) : Nat), ?_, ?_⟩
    · show (horner cs _ * Rat.divInt (a : Int) (f : Int) + c) * _ = _
      have hx : Rat.divInt (a : Int) (f : Int) * (f : Rat) = (a : Rat) := by
        rw [Rat.divInt_eq_div]
        have hf : ((f : Int) : Rat) ≠ 0 := by
          have : (f : Int) ≠ 0 := by omega
          exact_mod_cast this
        have e : ((f : Int) : Rat) = (f : Rat) := by norm_cast
        rw [e] at hf ⊢
        rw [Rat.div_mul_cancel hf]
        norm_cast
      generalize Rat.divInt (a : Int) (f : Int) = x at *
      generalize horner cs x = v at *
      rw [List.length_cons, Nat.pow_succ]
      push_cast at hz ⊢
      generalize (f : Rat) ^ cs.length = F at *
      grind
    · refine Nat.le_trans (Int.natAbs_add_le _ _) ?_
      rw [Int.natAbs_mul, Int.natAbs_mul, Int.natAbs_natCast, Int.natAbs_natCast, List.length_cons]
      have h1 : z.natAbs * a ≤ (cs.length * 2 ^ 20 * f ^ cs.length) * f := Nat.mul_le_mul hb ha
      have h2 : w.natAbs * f ^ (cs.length + 1) ≤ 2 ^ 20 * f ^ (cs.length + 1) := Nat.mul_le_mul_right _ hwb
      have h3 : (cs.length * 2 ^ 20 * f ^ cs.length) * f = cs.length * 2 ^ 20 * f ^ (cs.length + 1) := by rw [Nat.pow_succ (n := f), Nat.mul_assoc, Nat.mul_assoc]
      have h4 : (cs.length + 1) * 2 ^ 20 * f ^ (cs.length + 1) = cs.length * 2 ^ 20 * f ^ (cs.length + 1) + 2 ^ 20 * f ^ (cs.length + 1) := by rw [Nat.add_mul, Nat.add_mul, Nat.one_mul]
      omega
theorem sum_qb {D B : Nat} {F : Nat → Rat} (h : ∀ i, QB D B (F i)) : ∀ n, QB D (n * B) (sumQ F n)
  | 0 => ⟨0, by simp [sumQ], by simp⟩
  | n + 1 => by
    obtain ⟨z, hz, hb⟩ := sum_qb h n
    obtain ⟨w, hw, hwb⟩ := h n
    refine ⟨z + w, ?_, ?_⟩
    · show (sumQ F n + F n) * _ = _
      push_cast
      grind
    · have := Int.natAbs_add_le z w
      rw [Nat.succ_mul]
      omega

theorem sumQ_add (F G : Nat → Rat) : ∀ n, sumQ F n + sumQ G n = sumQ (fun i => F i + G i) n
  | 0 => by
    show (0 : Rat) + 0 = 0
    grind
  | n + 1 => by
    have := sumQ_add F G n
    show sumQ F n + F n + (sumQ G n + G n) = sumQ _ n + (F n + G n)
    rw [← this]
    grind
theorem sumQ_mul (F : Nat → Rat) (c : Rat) : ∀ n, sumQ F n * c = sumQ (fun i => F i * c) n
  | 0 => by simp [sumQ]
  | n + 1 => by
    have := sumQ_mul F c n
    show (sumQ F n + F n) * c = sumQ _ n + F n * c
    rw [← this]
    grind
theorem sumQ_congr {F G : Nat → Rat} : ∀ n, (∀ i, i < n → F i = G i) → sumQ F n = sumQ G n
  | 0, _ => rfl
  | n + 1, h => by
    show sumQ F n + F n = sumQ G n + G n
    rw [sumQ_congr n fun i hi => h i (by omega), h n (by omega)]
theorem sumQ_front (F : Nat → Rat) : ∀ n, sumQ F (n + 1) = F 0 + sumQ (fun i => F (i + 1)) n
  | 0 => by
    show 0 + F 0 = F 0 + 0
    grind
  | n + 1 => by
    have := sumQ_front F n
    show sumQ F (n + 1) + F (n + 1) = F 0 + (sumQ _ n + F (n + 1))
    rw [this]
    grind
theorem horner_sum (g : Nat → Rat) (x : Rat) : ∀ (n s : Nat), horner ((List.range' s n).map g) x = sumQ (fun j => g (s + j) * x ^ j) n
  | 0, s => rfl
  | n + 1, s => by
    rw [sumQ_front, List.range'_succ, List.map_cons]
    show horner ((List.range' (s + 1) n).map g) x * x + g s = _
    rw [horner_sum g x n (s + 1), sumQ_mul]
    have : sumQ (fun i => g (s + 1 + i) * x ^ i * x) n = sumQ (fun i => g (s + (i + 1)) * x ^ (i + 1)) n := sumQ_congr n fun i _ => by
      rw [Rat.pow_succ, Nat.add_assoc, Nat.add_comm 1 i]
      grind
    rw [this]
    simp
    grind
theorem pow_ne (f : Rat) (h : f ≠ 0) : ∀ j : Nat, f ^ j ≠ 0
  | 0 => by
    rw [Rat.pow_zero]
    decide
  | j + 1 => by
    rw [Rat.pow_succ]
    intro e
    rcases Rat.mul_eq_zero.mp e with z | z
    · exact pow_ne f h j z
    · exact h z
theorem div_pow' (a f : Rat) (h : f ≠ 0) : ∀ j : Nat, (a / f) ^ j = a ^ j / f ^ j
  | 0 => by
    rw [Rat.pow_zero, Rat.pow_zero, Rat.pow_zero]
    grind
  | j + 1 => by
    rw [Rat.pow_succ, Rat.pow_succ, Rat.pow_succ, div_pow' a f h j]
    have : f ^ j ≠ 0 := pow_ne f h j
    grind
/-- the two numbers are one -/
theorem law_prog {k : Nat} {d : Int} {r : List Int} (hd : d ≠ 0) (hrow : polyRow k = (List.range (k + 1)).map fun j => (comb k j : Rat) * nbQ (k - j)) (hchi : ∀ i, i < d.natAbs → chiL d (i + 1) = chiR (rowsI d r) (i + 1)) : lawB k d = progB k d r := by
  unfold lawB progB
  generalize hf : d.natAbs = f at *
  have hf0 : (f : Rat) ≠ 0 := by
    have : f ≠ 0 := by omega
    exact_mod_cast this
  have cast : ((f : Int) : Rat) = (f : Rat) := by norm_cast
  -- one place
  have step : ∀ n, n ≤ f → sumQ (lawTerm (polyRow k) d f) n * Rat.divInt ((f : Int) ^ (k - 1)) 1 = sumQ (fun j => term k (f : Int) (S (chiR (rowsI d r)) n j) j) (k + 1) := by
    intro n
    induction n with
    | zero =>
      intro _
      have : sumQ (fun j => term k (f : Int) (S (chiR (rowsI d r)) 0 j) j) (k + 1) = sumQ (fun _ => 0) (k + 1) := sumQ_congr _ fun j _ => by
        show Rat.divInt (comb k j * 0 * _) _ * _ = 0
        simp
      rw [this]
      have z : ∀ m, sumQ (fun _ => (0 : Rat)) m = 0 := by
        intro m
        induction m with
        | zero => rfl
        | succ m ih =>
          show sumQ (fun _ => (0 : Rat)) m + 0 = 0
          rw [ih]
          grind
      rw [z]
      show (0 : Rat) * _ = 0
      grind
    | succ n ih =>
      intro hn
      have ih := ih (by omega)
      show (sumQ (lawTerm (polyRow k) d f) n + lawTerm (polyRow k) d f n) * _ = _
      rw [Rat.add_mul, ih]
      have e1 : sumQ (fun j => term k (f : Int) (S (chiR (rowsI d r)) (n + 1) j) j) (k + 1) = sumQ (fun j => term k (f : Int) (S (chiR (rowsI d r)) n j) j) (k + 1) + sumQ (fun j => term k (f : Int) (chiR (rowsI d r) (n + 1) * ((n + 1 : Nat) : Int) ^ j) j) (k + 1) := by
        rw [sumQ_add]
        refine sumQ_congr _ fun j _ => ?_
        show Rat.divInt (comb k j * (S _ n j + chiR (rowsI d r) (n + 1) * ((n + 1 : Nat) : Int) ^ j) * _) _ * _ = _
        unfold term
        simp only [Rat.divInt_eq_div]
        push_cast
        grind
      rw [e1]
      congr 1
      unfold lawTerm
      rw [hchi n (by omega), hrow, List.range_eq_range', horner_sum, sumQ_mul, sumQ_mul]
      refine sumQ_congr _ fun j hj => ?_
      unfold term
      simp only [Rat.divInt_eq_div, Nat.zero_add]
      rw [div_pow' _ _ (by rw [cast]; exact hf0)]
      push_cast
      grind
  exact step f (Nat.le_refl _)
end NT

namespace K45
open PySem PySem.Spec PyProof.Rows L2 DM Sh NT
theorem qb_sm {D B : Nat} {q : Rat} (hD : D ≠ 0) (h : QB D B q) : Sm (max D.log2 B.log2) q := by
  obtain ⟨z, hz, hb⟩ := h
  have e : q = Rat.divInt z (D : Int) := by
    rw [Rat.divInt_eq_div]
    have hD' : ((D : Int) : Rat) ≠ 0 := by
      have : (D : Int) ≠ 0 := by omega
      exact_mod_cast this
    have c : ((D : Int) : Rat) = (D : Rat) := by norm_cast
    rw [c] at hD' ⊢
    rw [← hz]
    grind
  rw [e]
  have := log2_mono hb
  exact sm_divInt ⟨by omega, by omega, by rw [Int.natAbs_natCast]; omega⟩
theorem row_qb {k : Nat} (hk : k ≤ 8) : ∀ q ∈ polyRow k, ∃ w : Int, q * 210 = (w : Rat) ∧ w.natAbs ≤ 2 ^ 20 := fun q hq => by
  have := List.all_eq_true.mp (polyRow_qb ⟨k, by omega⟩) q hq
  have h := of_decide_eq_true this
  refine ⟨(q * 210).num, ?_, h.2⟩
  have e := Rat.num_divInt_den (q * 210)
  rw [h.1] at e
  have e2 : Rat.divInt (q * 210).num ((1 : Nat) : Int) = ((q * 210).num : Rat) := by
    generalize (q * 210).num = n
    rw [Rat.divInt_eq_div]
    push_cast
    grind
  rw [← e2]
  exact e.symm
theorem lawTerm_qb {k f : Nat} (hk : k ≤ 8) (hf : 0 < f) (d : Int) (i : Nat) (hi : i < f) : QB (210 * f ^ (k + 1)) ((k + 1) * 2 ^ 20 * f ^ (k + 1)) (lawTerm (polyRow k) d f i) := by
  have h := horner_qb (a := i + 1) (f := f) hf (by omega) (polyRow k) (row_qb hk)
  rw [polyRow_len] at h
  obtain ⟨z, hz, hb⟩ := h
  refine ⟨z * chiL d (i + 1), ?_, ?_⟩
  · unfold lawTerm
    have e : Rat.divInt (chiL d (i + 1)) 1 = ((chiL d (i + 1) : Int) : Rat) := by
      rw [Rat.divInt_eq_div]
      push_cast
      grind
    rw [e]
    push_cast at hz ⊢
    grind
  · rw [Int.natAbs_mul]
    have := chiL_abs d (i + 1)
    calc z.natAbs * _ ≤ _ * 1 := Nat.mul_le_mul hb this
      _ = _ := Nat.mul_one _
theorem lawSum_sm {k f : Nat} (hk : k ≤ 8) (hf : 0 < f) (hf2 : f < 2 ^ 20) (d : Int) (n : Nat) (hn : n ≤ f) : Sm 400 (sumQ (lawTerm (polyRow k) d f) n) := by
  have h : QB (210 * f ^ (k + 1)) (n * ((k + 1) * 2 ^ 20 * f ^ (k + 1))) (sumQ (lawTerm (polyRow k) d f) n) := by
    have h1 : ∀ i, QB (210 * f ^ (k + 1)) ((k + 1) * 2 ^ 20 * f ^ (k + 1)) (if i < f then lawTerm (polyRow k) d f i else 0) := fun i => by
      by_cases hi : i < f
      · rw [if_pos hi]; exact lawTerm_qb hk hf d i hi
      · rw [if_neg hi]; exact ⟨0, by simp, by simp⟩
    have h2 := sum_qb h1 n
    rw [sumQ_congr n (F := lawTerm (polyRow k) d f) (G := fun i => if i < f then lawTerm (polyRow k) d f i else 0) (fun i hi => by
      show _ = if i < f then _ else _
      rw [if_pos (by omega)])]
    exact h2
  have hp : f ^ (k + 1) ≠ 0 := Nat.pos_iff_ne_zero.mp (Nat.pow_pos hf)
  refine (qb_sm (by omega) h).mono ?_
  have l1 := pow_log (f := f) (n := k + 1) (by omega) (by omega)
  have l2 := log2_mul 210 (f ^ (k + 1))
  have l3 := log2_mul ((k + 1) * 2 ^ 20) (f ^ (k + 1))
  have l4 := log2_mul n ((k + 1) * 2 ^ 20 * f ^ (k + 1))
  have l5 : (k + 1) * 2 ^ 20 < 2 ^ 24 := by omega
  have l6 := log2_lt (k := 24) (by decide) l5
  have l7 := log2_lt (n := n) (k := 20) (by decide) (by omega)
  have l8 : Nat.log2 210 ≤ 8 := by decide +kernel
  omega
noncomputable abbrev hornB : SM := sSet 7 (eCall 2 (c__law_plus) (aCons (eCall 2 (c__law_times) (aCons (eVar 7) (aCons (eArgs false oTup (aCons (eVar 5) (aCons (eVar 3) aNil))) aNil))) (aCons (eVar 8) aNil)))
theorem horner_loop {row : List Rat} {a f : Nat} (hl : row.length ≤ 9) (hs : ∀ q ∈ row, Sm 20 q) (ha : a < 2 ^ 11) (hf : f < 2 ^ 11) (hf0 : 0 < f) (x0 x1 x2 x4 x6 t : Option D) (M : Mem) :
    ∃ t', forL [] (mName 8) hornB (row.map encQ).reverse [x0, x1, x2, some (.int f), x4, some (.int a), x6, some (encQ 0), t] M = .nx [x0, x1, x2, some (.int f), x4, some (.int a), x6, some (encQ (horner row (Rat.divInt (a : Int) (f : Int)))), t'] M
      ∧ Sm 330 (horner row (Rat.divInt (a : Int) (f : Int))) := by
  have lf : Lg 10 (a : Int) (f : Int) := lg_small (by rw [Int.natAbs_natCast]; exact ha) (by rw [Int.natAbs_natCast]; exact hf) (by omega)
  obtain ⟨τ', M', e, ⟨rfl, t', rfl⟩, ⟨s, hsm, hle⟩, _⟩ := forL_rel (src := []) (g := mName 8) (b := hornB) (enc := encQ)
    (R := fun (v : Rat) τ M1 => M1 = M ∧ ∃ t, τ = [x0, x1, x2, some (.int f), x4, some (.int a), x6, some (encQ v), t]) (f := fun v c => v * Rat.divInt (a : Int) (f : Int) + c)
    (Inv := fun v ys => (∃ s, Sm s v ∧ s + 34 * ys.length ≤ 330) ∧ ∀ q ∈ ys, Sm 20 q)
    (fun v c cs τ M1 hi hR => by
      obtain ⟨rfl, t, rfl⟩ := hR
      obtain ⟨⟨s, hv, hle⟩, hcs⟩ := hi
      rw [List.length_cons] at hle
      have hc := hcs c List.mem_cons_self
      have tm := ltimes_spec (k := 3000) (hv.lg.mono (by omega)) (lf.mono (by omega)) (by omega) M1
      rw [divInt_self', ← encQ_pair] at tm
      have hm := hv.mul (sm_divInt lf)
      have pl := plus_spec (k := 3000) (hm.lg.mono (by omega)) (hc.lg.mono (by omega)) (by omega) M1
      rw [divInt_self', divInt_self', ← encQ_pair, ← encQ_pair] at pl
      have ha' := hm.add hc
      refine ⟨by simp, [x0, x1, x2, some (.int f), x4, some (.int a), x6, some (encQ v), some (encQ c)], M1, [x0, x1, x2, some (.int f), x4, some (.int a), x6, some (encQ (v * Rat.divInt (a : Int) (f : Int) + c)), some (encQ c)], M1, by simp, .inl ?_, ⟨rfl, _, rfl⟩, ⟨_, ha', by omega⟩, fun q hq => hcs q (List.mem_cons_of_mem _ hq)⟩
      generalize encQ (v * Rat.divInt (a : Int) (f : Int) + c) = D1 at *
      generalize encQ (v * Rat.divInt (a : Int) (f : Int)) = D2 at *
      generalize encQ v = D3 at *
      generalize encQ c = D4 at *
      unfold pair at tm
      simp [tm, pl])
    (fun _ _ _ _ _ => by simp) row.reverse 0 [x0, x1, x2, some (.int f), x4, some (.int a), x6, some (encQ 0), t] M
    ⟨⟨0, sm_zero, by rw [List.length_reverse]; omega⟩, fun q hq => hs q (List.mem_reverse.mp hq)⟩ ⟨rfl, _, rfl⟩
  rw [List.foldl_reverse] at e hsm
  rw [List.map_reverse] at e
  exact ⟨t', e, hsm.mono (by simp at hle; omega)⟩
theorem lawBernoulli_spec {k : Nat} {d : Int} (hk : 1 ≤ k ∧ k ≤ 8) (hd : d ≠ 0) (hd2 : d.natAbs < 2 ^ 11) (M : Mem) : c__law_bernoulli [.int k, .int d] M = .ok (encQ (lawB k d)) M := by
  have hp := polynomial_spec hk M
  have hrs := poly_sm (j := k) (by omega)
  have hrl := polyRow_len k
  have hsum := fun n hn => lawSum_sm (k := k) (f := d.natAbs) (by omega) (by omega) (by omega) d n hn
  unfold lawB
  have hch : ∀ i, i < d.natAbs → ∀ M, c__law_character [.int d, .int (i + 1 : Nat)] M = .ok (.int (chiL d (i + 1))) M := fun i hi M => character_spec (by omega) (by omega) (by omega) M
  generalize hf : d.natAbs = f at *
  have hpos : 0 < f := by omega
  have e0 : encQ 0 = .tup [.int 0, .int 1] := rfl
  obtain ⟨τ', M', e, rfl, t1, t2, t3, t4, rfl⟩ := forL_range (g := mName 5) (b := (sSeq (sSet 6 (eCall 2 (c__law_character) (aCons (eVar 1) (aCons (eVar 5) aNil)))) (sIf (asB (eBin false oNe (eVar 6) (eC (.int 0)))) (sSeq (sSet 7 (eArgs false oTup (aCons (eC (.int 0)) (aCons (eC (.int 1)) aNil)))) (sSeq (sFor (iSeq (eUn false oRev (eVar 2))) (mName 8) hornB) (sSet 4 (eCall 2 (c__law_plus) (aCons (eVar 4) (aCons (eCall 2 (c__law_times) (aCons (eVar 7) (aCons (eArgs false oTup (aCons (eVar 6) (aCons (eC (.int 1)) aNil))) aNil))) aNil)))))) sNil))) (lo := 1) (n := f)
    (R := fun i τ M1 => M1 = M ∧ ∃ t1 t2 t3 t4, τ = [some (.int k), some (.int d), some (.lst ((polyRow k).map encQ)), some (.int f), some (encQ (sumQ (lawTerm (polyRow k) d f) i)), t1, t2, t3, t4])
    (fun i τ M1 hi hR => by
      obtain ⟨rfl, t1, t2, t3, t4, rfl⟩ := hR
      have h1 := hch i hi M1
      have ha : (1 : Int) + (i : Int) = ((i + 1 : Nat) : Int) := by omega
      obtain ⟨u, hh, hhs⟩ := horner_loop (row := polyRow k) (a := i + 1) (f := f) (by omega) hrs (by omega) hd2 hpos (some (.int k)) (some (.int d)) (some (.lst ((polyRow k).map encQ))) (some (encQ (sumQ (lawTerm (polyRow k) d f) i))) (some (.int (chiL d (i + 1)))) t4 M1
      have hca := chiL_abs d (i + 1)
      have lc : Lg 10 (chiL d (i + 1)) 1 := lg_small (by omega) (by decide) (by decide)
      have tm := ltimes_spec (k := 3000) (hhs.lg.mono (by omega)) (lc.mono (by omega)) (by omega) M1
      rw [divInt_self', ← encQ_pair] at tm
      have hts := hhs.mul (sm_divInt lc)
      have pl := plus_spec (k := 3000) ((hsum i (by omega)).lg.mono (by omega)) (hts.lg.mono (by omega)) (by omega) M1
      rw [divInt_self', divInt_self', ← encQ_pair, ← encQ_pair] at pl
      have ht : horner (polyRow k) (Rat.divInt ((i + 1 : Nat) : Int) (f : Int)) * Rat.divInt (chiL d (i + 1)) 1 = lawTerm (polyRow k) d f i := rfl
      have hs1 : sumQ (lawTerm (polyRow k) d f) i + lawTerm (polyRow k) d f i = sumQ (lawTerm (polyRow k) d f) (i + 1) := rfl
      rw [ht, hs1] at pl
      rw [ht] at tm
      rw [ha]
      by_cases hz : chiL d (i + 1) = 0
      · have hsk : sumQ (lawTerm (polyRow k) d f) (i + 1) = sumQ (lawTerm (polyRow k) d f) i := by
          rw [← hs1, ← ht, hz]
          have : Rat.divInt 0 1 = 0 := by decide +kernel
          rw [this]
          grind
        refine ⟨[some (.int k), some (.int d), some (.lst ((polyRow k).map encQ)), some (.int f), some (encQ (sumQ (lawTerm (polyRow k) d f) i)), some (.int (i + 1 : Nat)), t2, t3, t4], M1, [some (.int k), some (.int d), some (.lst ((polyRow k).map encQ)), some (.int f), some (encQ (sumQ (lawTerm (polyRow k) d f) i)), some (.int (i + 1 : Nat)), some (.int 0), t3, t4], M1, by simp, .inl ?_, rfl, _, _, _, _, by rw [hsk]⟩
        rw [hz] at h1
        clear hh hhs tm hts pl
        generalize ((i + 1 : Nat) : Int) = ai at *
        simp [h1]
      · refine ⟨[some (.int k), some (.int d), some (.lst ((polyRow k).map encQ)), some (.int f), some (encQ (sumQ (lawTerm (polyRow k) d f) i)), some (.int (i + 1 : Nat)), t2, t3, t4], M1, [some (.int k), some (.int d), some (.lst ((polyRow k).map encQ)), some (.int f), some (encQ (sumQ (lawTerm (polyRow k) d f) (i + 1))), some (.int (i + 1 : Nat)), some (.int (chiL d (i + 1))), some (encQ (horner (polyRow k) (Rat.divInt ((i + 1 : Nat) : Int) (f : Int)))), u], M1, by simp, .inl ?_, rfl, _, _, _, _, rfl⟩
        rw [e0] at hh
        unfold pair at tm
        generalize ((i + 1 : Nat) : Int) = ai at *
        generalize encQ (horner (polyRow k) (Rat.divInt ai (f : Int))) = D1 at *
        generalize encQ (lawTerm (polyRow k) d f i) = D2 at *
        generalize encQ (sumQ (lawTerm (polyRow k) d f) i) = D3 at *
        generalize encQ (sumQ (lawTerm (polyRow k) d f) (i + 1)) = D4 at *
        simp [h1, hz, hh, tm, pl])
    (τ := [some (.int k), some (.int d), some (.lst ((polyRow k).map encQ)), some (.int f), some (encQ 0), none, none, none, none]) (M := M) ⟨rfl, _, _, _, _, rfl⟩
  rw [e0] at e
  have hk1 : (k : Int) - 1 = ((k - 1 : Nat) : Int) := by omega
  have pw := Sh.lawPower_spec (b := (f : Int)) (n := k - 1) (by rw [Int.natAbs_natCast]; omega) (by omega) M'
  have hlp : Lg 400 ((f : Int) ^ (k - 1)) 1 := by
    have e1 : ((f : Int) ^ (k - 1)).natAbs = f ^ (k - 1) := by rw [Int.natAbs_pow, Int.natAbs_natCast]
    have l1 := pow_log (f := f) (n := k - 1) (by omega) (by omega)
    exact ⟨by decide, by rw [e1]; omega, by decide +kernel⟩
  have tm := ltimes_spec (k := 400) (hsum f (Nat.le_refl _)).lg hlp (by omega) M'
  rw [divInt_self', ← encQ_pair] at tm
  unfold pair at tm
  have q : ∀ i : Int, (if i < 0 then -i else i) = (i.natAbs : Int) := fun i => by split <;> omega
  have hrg : rngOk ((f : Int) + 1) := rngOk_of (by omega) (by omega)
  have hf1 : ((f : Int) + 1 - 1).toNat = f := by omega
  generalize encQ (sumQ (lawTerm (polyRow k) d f) f * Rat.divInt ((f : Int) ^ (k - 1)) 1) = D1 at *
  generalize encQ (sumQ (lawTerm (polyRow k) d f) f) = D2 at *
  unfold c__law_bernoulli m__law_bernoulli
  simp [startD, hp, q, hf, hrg, hf1, e, hk1, pw, tm]
end K45

namespace K45
open PySem PySem.Spec PyProof.Rows L2 DM Sh NT
theorem abs_eq (i : Int) : (if i < 0 then -i else i) = (i.natAbs : Int) := by split <;> omega
theorem number_spec {k : Nat} {d : Int} (hk : 1 ≤ k ∧ k ≤ 8) (hd : d ≠ 0) (hd2 : d.natAbs ≤ 400000) (hdd : disc d = d) {r : List Int} (he : e8 (leftOf d) = some r) (M : Mem) :
    c_bernoulli_number [.int k, .int d] M = .ok (encQ (progB k d r)) M := by
  have h1 := toldWhole_spec hd (by omega) M
  have h2 := discOf_spec hd (by omega) M
  have h3 := bernoulli_spec hk hd (by omega) he M
  rw [hdd] at h2
  have h4 : ¬ (400000 : Int) < (d.natAbs : Int) := by omega
  have h5 : (1 : Int) ≤ (k : Int) := by omega
  have h6 : (k : Int) ≤ 8 := by omega
  unfold c_bernoulli_number m_bernoulli_number
  simp [startD, abs_eq, h1, h2, h3, h4, h5, h6]
/-! ### what is refused -/
def exB : D := .exn "BadNumber" false (Str.ofString "") .non
theorem raise_eq (c : String) (τ : DSt) (M : Mem) : ∃ x, sRaise c τ M = .exc x τ M := ⟨_, rfl⟩
end K45

namespace K45
open PySem PySem.Spec PyProof.Rows L2 DM Sh NT
abbrev exN (c : String) : D := .exn c false "" .non
def odd6 : List D := [.non, .bl true, .str "1", .int 0, .tup [.int 1], .dic]
theorem told_bad {x : D} (h : x ∈ odd6) (M : Mem) : c_told_whole [x, .non] M = .exc (exN "BadNumber") M := by
  simp only [odd6, List.mem_cons, List.not_mem_nil, or_false] at h
  rcases h with rfl | rfl | rfl | rfl | rfl | rfl <;> (unfold c_told_whole m_told_whole; simp [startD])
theorem handle_hit {h : Hd} {r : List Hd} {c : String} {has : Bool} {f : Str} {d v : D} {τ : DSt} {M : Mem} (h1 : h.tst c = some true) (h2 : h.s (τ.set h.i (some (.exn c has f d))) M = .rt v M) (h3 : NoX v) : handle (h :: r) (.exn c has f d) τ M = .rt v M := by
  unfold handle
  simp only [h1, h2]
  rw [if_pos ⟨h3, rfl⟩]
theorem handle_miss {h : Hd} {r : List Hd} {c : String} {has : Bool} {f : Str} {d : D} {τ : DSt} {M : Mem} (h1 : h.tst c = some false) : handle (h :: r) (.exn c has f d) τ M = handle r (.exn c has f d) τ M := by
  conv => lhs; unfold handle
  simp only [h1]
def numberT : D := .tup [.str "number", .bl true, .bl false]
def greatT : D := .tup [.str "great", .bl true, .bl false]
noncomputable abbrev hdB : Hd := { tst := is_BadNumber, i := 3, s := (sRet (eArgs false oTup (aCons (eC (.str "number")) (aCons (eIsE is_FormError (eVar 3)) (aCons (eIsE is_TooGreat (eVar 3)) aNil))))) }
noncomputable abbrev hdG : Hd := { tst := is_TooGreat, i := 3, s := (sRet (eArgs false oTup (aCons (eC (.str "great")) (aCons (eIsE is_FormError (eVar 3)) (aCons (eIsE is_BadNumber (eVar 3)) aNil))))) }
theorem hand_bad (a b c d : Option D) (M : Mem) : handle [hdB, hdG] (exN "BadNumber") [a, b, c, d] M = .rt numberT M := by
  refine handle_hit rfl ?_ ?_
  · have h1 : is_FormError "BadNumber" = some true := rfl
    have h2 : is_TooGreat "BadNumber" = some false := rfl
    simp [h1, h2, numberT]
  · simp [numberT, NoX, NoXL]
theorem hand_great (a b c d : Option D) (M : Mem) : handle [hdB, hdG] (exN "TooGreat") [a, b, c, d] M = .rt greatT M := by
  rw [handle_miss rfl]
  refine handle_hit rfl ?_ ?_
  · have h1 : is_FormError "TooGreat" = some true := rfl
    have h2 : is_BadNumber "TooGreat" = some false := rfl
    simp [h1, h2, greatT]
  · simp [greatT, NoX, NoXL]
theorem fault_disc {x : D} {M : Mem} {c : String} {v : D} (h : c_discriminant [x] M = .exc (exN c) M) (hh : ∀ a b c' d, handle [hdB, hdG] (exN c) [a, b, c', d] M = .rt v M) : c__law_fault [.str "discriminant", x, .non] M = .ok v M := by
  unfold c__law_fault m__law_fault
  simp [startD, h, sTry, hh]
theorem fault_bern {k x : D} {M : Mem} {c : String} {v : D} (h : c_bernoulli_number [k, x] M = .exc (exN c) M) (hh : ∀ a b c' d, handle [hdB, hdG] (exN c) [a, b, c', d] M = .rt v M) : c__law_fault [.str "bernoulli", k, x] M = .ok v M := by
  have hne : ¬ (Str.ofString "bernoulli" = Str.ofString "discriminant") := by decide
  unfold c__law_fault m__law_fault
  simp [startD, h, sTry, hh, hne]
/-! the refusals -/
theorem disc_bad {x : D} (h : x ∈ odd6) (M : Mem) : c_discriminant [x] M = .exc (exN "BadNumber") M := by
  have h1 := told_bad h M
  unfold c_discriminant m_discriminant
  simp [startD, h1]
theorem disc_great {n : Int} (hn : 1000000000 < n.natAbs) (hn2 : n.natAbs < 2 ^ 120) (M : Mem) : c_discriminant [.int n] M = .exc (exN "TooGreat") M := by
  have h1 : c_told_whole [.int n, .non] M = .ok (.int n) M := by
    have h1 : ¬ (1000000000000000000000000000000000000000000000000000000000000 : Int) ≤ (n.natAbs : Int) := by omega
    have h0 : ¬ n = 0 := by omega
    unfold c_told_whole m_told_whole
    simp [startD, abs_eq, h1, h0]
  have h3 : (1000000000 : Int) < (n.natAbs : Int) := by omega
  unfold c_discriminant m_discriminant
  simp [startD, abs_eq, h1, h3]
def oddK : List D := [.int 0, .int 9, .int (-1), .non, .bl true, .str "1"]
theorem bern_badK {k : D} (h : k ∈ oddK) (x : D) (M : Mem) : c_bernoulli_number [k, x] M = .exc (exN "BadNumber") M := by
  simp only [oddK, List.mem_cons, List.not_mem_nil, or_false] at h
  rcases h with rfl | rfl | rfl | rfl | rfl | rfl <;> (unfold c_bernoulli_number m_bernoulli_number; simp [startD])
theorem bern_badX {k : Nat} (hk : 1 ≤ k ∧ k ≤ 8) {x : D} (h : x ∈ odd6) (M : Mem) : c_bernoulli_number [.int k, x] M = .exc (exN "BadNumber") M := by
  have h1 := told_bad h M
  have h5 : (1 : Int) ≤ (k : Int) := by omega
  have h6 : (k : Int) ≤ 8 := by omega
  unfold c_bernoulli_number m_bernoulli_number
  simp [startD, h1, h5, h6]
theorem bern_great {k : Nat} (hk : 1 ≤ k ∧ k ≤ 8) {n : Int} (hn : 400000 < n.natAbs) (hn2 : n.natAbs < 2 ^ 120) (M : Mem) : c_bernoulli_number [.int k, .int n] M = .exc (exN "TooGreat") M := by
  have h1 : c_told_whole [.int n, .non] M = .ok (.int n) M := by
    have h1 : ¬ (1000000000000000000000000000000000000000000000000000000000000 : Int) ≤ (n.natAbs : Int) := by omega
    have h0 : ¬ n = 0 := by omega
    unfold c_told_whole m_told_whole
    simp [startD, abs_eq, h1, h0]
  have h3 : (400000 : Int) < (n.natAbs : Int) := by omega
  have h5 : (1 : Int) ≤ (k : Int) := by omega
  have h6 : (k : Int) ≤ 8 := by omega
  unfold c_bernoulli_number m_bernoulli_number
  simp [startD, abs_eq, h1, h3, h5, h6]
theorem bern_wrong {k : Nat} (hk : 1 ≤ k ∧ k ≤ 8) {n : Int} (hn : n ≠ 0) (hn2 : n.natAbs ≤ 400000) (hd : disc n ≠ n) (M : Mem) : c_bernoulli_number [.int k, .int n] M = .exc (exN "BadNumber") M := by
  have h1 := toldWhole_spec hn (by omega) M
  have h2 := discOf_spec hn (by omega) M
  have h3 : ¬ (400000 : Int) < (n.natAbs : Int) := by omega
  have h5 : (1 : Int) ≤ (k : Int) := by omega
  have h6 : (k : Int) ≤ 8 := by omega
  unfold c_bernoulli_number m_bernoulli_number
  simp [startD, abs_eq, h1, h2, h3, h5, h6, hd]
end K45

namespace NT
def rtF : Nat → Nat → Nat
  | 0, _ => 0
  | k + 1, n => if (k + 1) * (k + 1) ≤ n then k + 1 else rtF k n
theorem rtF_eq {n r : Nat} (h1 : r * r ≤ n) (h2 : n < (r + 1) * (r + 1)) : ∀ k, r ≤ k → rtF k n = r
  | 0, h => by
    have : r = 0 := by omega
    subst this
    rfl
  | k + 1, h => by
    unfold rtF
    by_cases e : (k + 1) * (k + 1) ≤ n
    · rw [if_pos e]
      have : k + 1 < r + 1 := by
        by_cases z : k + 1 < r + 1
        · exact z
        · have := Nat.mul_le_mul (show r + 1 ≤ k + 1 by omega) (show r + 1 ≤ k + 1 by omega)
          omega
      omega
    · rw [if_neg e]
      have : r ≠ k + 1 := fun z => e (by rw [← z]; exact h1)
      exact rtF_eq h1 h2 k (by omega)
def cTest (d : Int) (a : Nat) (b : Int) : Int :=
  if (b * b - d) % (4 * (a : Int)) = 0 then
    (if (a : Int) < (b * b - d) / (4 * (a : Int)) ∨ ((b * b - d) / (4 * (a : Int)) = (a : Int) ∧ 0 ≤ b) then
      (if (Nat.gcd (Nat.gcd a b.natAbs) ((b * b - d) / (4 * (a : Int))).natAbs == 1) = true then 1 else 0) else 0) else 0
def cRow (d : Int) (a n : Nat) : Int := match n with
  | 0 => 0
  | i + 1 => cRow d a i + cTest d a (1 - (a : Int) + (i : Int))
def cAll (d : Int) : Nat → Int
  | 0 => 0
  | i + 1 => cAll d i + cRow d (i + 1) (2 * (i + 1))
def classNo (d : Int) : Int := cAll d (rtF 40 (d.natAbs / 3 + 1))
end NT
namespace K45
open PySem PySem.Spec PyProof.Rows L2 DM Sh NT
theorem root_spec {n : Nat} (hn : n ≤ 1000) (M : Mem) : c__law_root [.int n] M = .ok (.int (rtF 40 n)) M := by
  obtain ⟨τ1, M1, e1, hM1, hi, t1, rfl, h1, h2, h3⟩ := forL_mu (g := mName 3) (b := (sSeq (sIf (asB (eBin false oGt (eBin false oMul (eVar 2) (eVar 2)) (eVar 0))) sBreak sNil) (sSet 2 (eBin false oMul (eC (.int 2)) (eVar 2)))))
    (R := fun (h : Nat) τ M1 => M1 = M ∧ ∃ t, τ = [some (.int n), some (.int 0), some (.int h), t, none] ∧ 1 ≤ h ∧ h ≤ 2 * n + 2)
    (F := fun τ M1 => M1 = M ∧ ∃ (h : Nat) (t : Option D), τ = [some (.int n), some (.int 0), some (.int h), t, none] ∧ 1 ≤ h ∧ h ≤ 2 * n + 2 ∧ n < h * h) (fun h => n + 1 - h)
    (fun h x τ M1 hR => by
      obtain ⟨rfl, t, rfl, h1, h2⟩ := hR
      refine ⟨[some (.int n), some (.int 0), some (.int h), some x, none], M1, by simp, ?_⟩
      have q1 : CMulG (h : Int) (h : Int) := cmul_l (by omega)
      have q2 : CMulG 2 (h : Int) := cmul_l (by decide)
      by_cases hb : n < h * h
      · have : (n : Int) < (h : Int) * (h : Int) := by exact_mod_cast hb
        exact .inl ⟨[some (.int n), some (.int 0), some (.int h), some x, none], M1, by simp [q1, this], rfl, h, _, rfl, h1, h2, hb⟩
      · have : ¬ (n : Int) < (h : Int) * (h : Int) := by
          intro z
          exact hb (by exact_mod_cast z)
        have hle : h ≤ n := by
          have := Nat.mul_le_mul_left h h1
          omega
        exact .inr ⟨2 * h, [some (.int n), some (.int 0), some (.int (2 * h : Nat)), some x, none], M1, by simp [q1, q2, this], ⟨rfl, _, rfl, by omega, by omega⟩, by omega⟩)
    (rangeD 0 4000) 1 [some (.int n), some (.int 0), some (.int 1), none, none] M ⟨rfl, _, rfl, by omega, by omega⟩ (by rw [rangeD_len]; omega)
  rw [hM1] at e1
  obtain ⟨τ2, M2, e2, hM2, lo, t2, t3, t4, rfl, h4, h5⟩ := forL_mu (g := mName 3) (b := (sSeq (sIf (asB (eBin false oLt (eBin false oSub (eVar 2) (eVar 1)) (eC (.int 2)))) sBreak sNil) (sSeq (sSet 4 (eArgs false oInt (aCons (eBin false oDiv (eBin false oAdd (eVar 1) (eVar 2)) (eC (.int 2))) aNil))) (sIf (asB (eBin false oGt (eBin false oMul (eVar 4) (eVar 4)) (eVar 0))) (sSet 2 (eVar 4)) (sSet 1 (eVar 4))))))
    (R := fun (x : Nat × Nat) τ M1 => M1 = M ∧ ∃ t u, τ = [some (.int n), some (.int x.1), some (.int x.2), t, u] ∧ x.1 * x.1 ≤ n ∧ n < x.2 * x.2 ∧ x.2 ≤ 2 * n + 2 ∧ x.1 < x.2)
    (F := fun τ M1 => M1 = M ∧ ∃ (lo : Nat) (t u v : Option D), τ = [some (.int n), some (.int lo), t, u, v] ∧ lo * lo ≤ n ∧ n < (lo + 1) * (lo + 1)) (fun x => x.2 - x.1)
    (fun x y τ M1 hR => by
      obtain ⟨l, h⟩ := x
      obtain ⟨rfl, t, u, rfl, a1, a2, a3, a4⟩ := hR
      dsimp only at a1 a2 a3 a4
      refine ⟨[some (.int n), some (.int l), some (.int h), some y, u], M1, by simp, ?_⟩
      by_cases hb : h - l < 2
      · have hh : h = l + 1 := by omega
        have : (h : Int) - (l : Int) < 2 := by omega
        exact .inl ⟨[some (.int n), some (.int l), some (.int h), some y, u], M1, by simp [this], rfl, l, _, _, _, rfl, a1, by rw [← hh]; exact a2⟩
      · have hn2 : ¬ (h : Int) - (l : Int) < 2 := by omega
        obtain ⟨m, hm⟩ : ∃ m, (l + h) / 2 = m := ⟨_, rfl⟩
        have q3 : CDivG ((l : Int) + (h : Int)) 2 := ⟨by decide, by decide⟩
        have em : ((l : Int) + (h : Int)) / 2 = (m : Int) := by omega
        have q1 : CMulG (m : Int) (m : Int) := cmul_l (by omega)
        by_cases hc : n < m * m
        · have : (n : Int) < (m : Int) * (m : Int) := by exact_mod_cast hc
          exact .inr ⟨(l, m), [some (.int n), some (.int l), some (.int m), some y, some (.int m)], M1, by simp [hn2, q3, fdiv_pos, em, q1, this], ⟨rfl, _, _, rfl, a1, hc, by dsimp only; omega, by dsimp only; omega⟩, by dsimp only; omega⟩
        · have : ¬ (n : Int) < (m : Int) * (m : Int) := by
            intro z
            exact hc (by exact_mod_cast z)
          exact .inr ⟨(m, h), [some (.int n), some (.int m), some (.int h), some y, some (.int m)], M1, by simp [hn2, q3, fdiv_pos, em, q1, this], ⟨rfl, _, _, rfl, by dsimp only; omega, a2, a3, by dsimp only; omega⟩, by dsimp only; omega⟩)
    (rangeD 0 4000) (0, hi) [some (.int n), some (.int 0), some (.int hi), t1, none] M ⟨rfl, _, _, rfl, by dsimp only; omega, h3, h2, h1⟩ (by rw [rangeD_len]; dsimp only; omega)
  rw [hM2] at e2
  have hlo : lo ≤ 40 := by
    by_cases z : lo ≤ 40
    · exact z
    · have := Nat.mul_le_mul (show 41 ≤ lo by omega) (show 41 ≤ lo by omega)
      omega
  rw [rtF_eq h4 h5 40 hlo]
  unfold c__law_root m__law_root
  simp [startD, e1, e2]
end K45

namespace K45
open PySem PySem.Spec PyProof.Rows L2 DM Sh NT
noncomputable abbrev clB : SM := (sSeq (sSet 4 (eBin false oSub (eBin false oMul (eVar 3) (eVar 3)) (eVar 0))) (sIf (asB (eBin false oEq (eBin false oMod (eArgs false oInt (aCons (eVar 4) aNil)) (eBin false oMul (eC (.int 4)) (eVar 2))) (eC (.int 0)))) (sSeq (sSet 5 (eArgs false oInt (aCons (eBin false oDiv (eVar 4) (eBin false oMul (eC (.int 4)) (eVar 2))) aNil))) (sIf (mOr (asB (eBin false oGt (eVar 5) (eVar 2))) (mAnd (asB (eBin false oEq (eVar 5) (eVar 2))) (asB (eBin false oGe (eVar 3) (eC (.int 0)))))) (sSet 1 (eBin false oAdd (eVar 1) (eArgs false oInt (aCons (eBin false oEq (eCall 2 (c__law_common) (aCons (eCall 2 (c__law_common) (aCons (eVar 2) (aCons (eVar 3) aNil))) (aCons (eVar 5) aNil))) (eC (.int 1))) aNil)))) sNil)) sNil))
theorem cl_step {d b f : Int} {a : Nat} (ha : 1 ≤ a ∧ a ≤ 1000) (hb : b.natAbs ≤ 1000) (hd : d.natAbs ≤ 10000) (t u : Option D) (M : Mem) :
    ∃ t' u', clB [some (.int d), some (.int f), some (.int a), some (.int b), t, u] M = .nx [some (.int d), some (.int (f + cTest d a b)), some (.int a), some (.int b), t', u'] M := by
  have q1 : CMulG b b := cmul_l (by omega)
  have q2 : CMulG 4 (a : Int) := cmul_l (by decide)
  have h4 : ¬ (4 * (a : Int)) = 0 := by omega
  have hfm : ∀ x : Int, x.fmod (4 * (a : Int)) = x % (4 * (a : Int)) := fun x => fmod_pos (by omega)
  have hfd : ∀ x : Int, x.fdiv (4 * (a : Int)) = x / (4 * (a : Int)) := fun x => fdiv_pos (by omega)
  have q3 : ∀ x, CDivG x (4 * (a : Int)) := fun x => ⟨by omega, small_log (by omega)⟩
  have hbb : (b * b).natAbs ≤ 1000 * 1000 := by rw [Int.natAbs_mul]; exact Nat.mul_le_mul hb hb
  have ht : (b * b - d).natAbs ≤ 1010000 := by omega
  have hg1 := common_spec (a := (a : Int)) (b := b) (by rw [Int.natAbs_natCast]; exact small_log (by omega)) (small_log (by omega)) M
  rw [Int.natAbs_natCast] at hg1
  have hc' : ((b * b - d) / (4 * (a : Int))).natAbs ≤ 1010000 := Nat.le_trans (Int.natAbs_ediv_le_natAbs _ _) ht
  have hgl : (Nat.gcd a b.natAbs) ≤ a := Nat.gcd_le_left _ (by omega)
  have hg2 := common_spec (a := ((Nat.gcd a b.natAbs : Nat) : Int)) (b := (b * b - d) / (4 * (a : Int))) (by rw [Int.natAbs_natCast]; exact small_log (by omega)) (small_log (by omega)) M
  rw [Int.natAbs_natCast] at hg2
  unfold cTest
  generalize hc : (b * b - d) / (4 * (a : Int)) = c at *
  generalize Nat.gcd a b.natAbs = g1 at *
  generalize Nat.gcd g1 c.natAbs = g2 at *
  have hgi : ((g2 : Int) = 1) = (g2 = 1) := by apply propext; omega
  by_cases h1 : (b * b - d) % (4 * (a : Int)) = 0
  · rw [if_pos h1]
    by_cases h2 : (a : Int) < c
    · rw [if_pos (.inl h2)]
      by_cases h3 : g2 = 1
      · exact ⟨some (.int (b * b - d)), some (.int c), by simp [q1, q2, h4, hfm, h1, q3, hfd, hc, h2, hg1, hg2, hgi, h3]⟩
      · exact ⟨some (.int (b * b - d)), some (.int c), by simp [q1, q2, h4, hfm, h1, q3, hfd, hc, h2, hg1, hg2, hgi, h3]⟩
    · by_cases h5 : c = (a : Int)
      · by_cases h6 : 0 ≤ b
        · rw [if_pos (.inr ⟨h5, h6⟩)]
          have h5' : (c = (a : Int)) = True := eq_true h5
          by_cases h3 : g2 = 1
          · exact ⟨some (.int (b * b - d)), some (.int c), by simp [q1, q2, h4, hfm, h1, q3, hfd, hc, h2, h5', h6, hg1, hg2, hgi, h3]⟩
          · exact ⟨some (.int (b * b - d)), some (.int c), by simp [q1, q2, h4, hfm, h1, q3, hfd, hc, h2, h5', h6, hg1, hg2, hgi, h3]⟩
        · rw [if_neg (fun z => by rcases z with z | z; exact h2 z; exact h6 z.2)]
          have h5' : (c = (a : Int)) = True := eq_true h5
          exact ⟨some (.int (b * b - d)), some (.int c), by simp [q1, q2, h4, hfm, h1, q3, hfd, hc, h2, h5', h6]⟩
      · rw [if_neg (fun z => by rcases z with z | z; exact h2 z; exact h5 z.1)]
        exact ⟨some (.int (b * b - d)), some (.int c), by simp [q1, q2, h4, hfm, h1, q3, hfd, hc, h2, h5]⟩
  · rw [if_neg h1]
    exact ⟨some (.int (b * b - d)), u, by simp [q1, q2, h4, hfm, h1]⟩
theorem class_spec {d : Int} (hd : d < 0) (hd2 : d.natAbs ≤ 2000) (M : Mem) : c__law_class_number [.int d] M = .ok (.int (classNo d)) M := by
  have hr := root_spec (n := d.natAbs / 3 + 1) (by omega) M
  have hrl : rtF 40 (d.natAbs / 3 + 1) ≤ 40 := by
    have : ∀ k n, rtF k n ≤ k := by
      intro k n
      induction k with
      | zero => exact Nat.le_refl _
      | succ k ih => unfold rtF; split <;> omega
    exact this _ _
  unfold classNo
  generalize hroot : rtF 40 (d.natAbs / 3 + 1) = r at *
  obtain ⟨τ', M', e, hM', t1, t2, t3, t4, rfl⟩ := forL_range (g := mName 2) (b := (sFor (iRange2 (aCons (eBin false oSub (eC (.int 1)) (eVar 2)) (aCons (eBin false oAdd (eVar 2) (eC (.int 1))) aNil))) (mName 3) clB)) (lo := 1) (n := r)
    (R := fun i τ M1 => M1 = M ∧ ∃ t1 t2 t3 t4, τ = [some (.int d), some (.int (cAll d i)), t1, t2, t3, t4])
    (fun i τ M1 hi hR => by
      obtain ⟨rfl, t1, t2, t3, t4, rfl⟩ := hR
      have ha : (1 : Int) + (i : Int) = ((i + 1 : Nat) : Int) := by omega
      obtain ⟨τ2, M2, e2, hM2, u2, u3, u4, rfl⟩ := forL_range (g := mName 3) (b := clB) (lo := 1 - ((i + 1 : Nat) : Int)) (n := 2 * (i + 1))
        (R := fun j τ M2 => M2 = M1 ∧ ∃ t2 t3 t4, τ = [some (.int d), some (.int (cAll d i + cRow d (i + 1) j)), some (.int (i + 1 : Nat)), t2, t3, t4])
        (fun j τ M2 hj hR => by
          obtain ⟨rfl, t2, t3, t4, rfl⟩ := hR
          obtain ⟨t', u', hs⟩ := cl_step (d := d) (b := 1 - ((i + 1 : Nat) : Int) + (j : Int)) (f := cAll d i + cRow d (i + 1) j) (a := i + 1) (by omega) (by omega) (by omega) t3 t4 M2
          have hcr : cAll d i + cRow d (i + 1) j + cTest d (i + 1) (1 - ((i + 1 : Nat) : Int) + (j : Int)) = cAll d i + cRow d (i + 1) (j + 1) := by
            show _ = cAll d i + (cRow d (i + 1) j + cTest d (i + 1) (1 - ((i + 1 : Nat) : Int) + (j : Int)))
            rw [Int.add_assoc]
          rw [hcr] at hs
          exact ⟨[some (.int d), some (.int (cAll d i + cRow d (i + 1) j)), some (.int (i + 1 : Nat)), some (.int (1 - ((i + 1 : Nat) : Int) + (j : Int))), t3, t4], M2, _, M2, by simp, .inl hs, rfl, _, _, _, rfl⟩)
        (τ := [some (.int d), some (.int (cAll d i)), some (.int (i + 1 : Nat)), t2, t3, t4]) (M := M1) ⟨rfl, _, _, _, by
          have : cAll d i + cRow d (i + 1) 0 = cAll d i := Int.add_zero _
          rw [this]⟩
      rw [hM2] at e2
      have hlast : cAll d i + cRow d (i + 1) (2 * (i + 1)) = cAll d (i + 1) := rfl
      rw [hlast] at e2
      have hn : (((i + 1 : Nat) : Int) + 1 - (1 - ((i + 1 : Nat) : Int))).toNat = 2 * (i + 1) := by omega
      have g1 : rngOk (1 - ((i + 1 : Nat) : Int)) := rngOk_of (by omega) (by omega)
      have g2 : rngOk (((i + 1 : Nat) : Int) + 1) := rngOk_of (by omega) (by omega)
      rw [ha]
      refine ⟨[some (.int d), some (.int (cAll d i)), some (.int (i + 1 : Nat)), t2, t3, t4], M1, [some (.int d), some (.int (cAll d (i + 1))), some (.int (i + 1 : Nat)), u2, u3, u4], M1, by simp, .inl ?_, rfl, _, _, _, _, rfl⟩
      generalize ((i + 1 : Nat) : Int) = ai at *
      simp [g1, g2, hn, e2])
    (τ := [some (.int d), some (.int 0), none, none, none, none]) (M := M) ⟨rfl, _, _, _, _, rfl⟩
  rw [hM'] at e
  have q3 : CDivG (-d) 3 := ⟨by decide, by decide⟩
  have e3 : (-d) / 3 + 1 = ((d.natAbs / 3 + 1 : Nat) : Int) := by omega
  have g3 : rngOk (1 + (r : Int)) := rngOk_of (by omega) (by omega)
  have hn : (1 + (r : Int) - 1).toNat = r := by omega
  generalize ((d.natAbs / 3 + 1 : Nat) : Int) = rr at *
  unfold c__law_class_number m__law_class_number
  simp [startD, q3, fdiv_pos, e3, hr, g3, hn, e]
end K45

namespace NT
/-! ### quick counting, in natural numbers -/
def trit (x : Int) : Prop := x = 0 ∨ x = 1 ∨ x = -1
instance (x : Int) : Decidable (trit x) := inferInstanceAs (Decidable (_ ∨ _ ∨ _))
def cd (x : Int) : Nat := if x = 0 then 0 else if x = 1 then 1 else 2
theorem cd_mul {x y : Int} (hx : trit x) (hy : trit y) : cd (x * y) = cd x * cd y % 3 ∧ trit (x * y) := by
  rcases hx with rfl | rfl | rfl <;> rcases hy with rfl | rfl | rfl <;> decide
def fac (m r : Nat) : Nat := bif Nat.beq r 0 then 0 else 2 - (m >>> r) % 2
theorem fac_qr (p r : Nat) : cd (qr p r) = fac (mask p (p - 1)) r ∧ trit (qr p r) := by
  unfold qr fac
  by_cases h : r = 0
  · subst h; exact ⟨rfl, .inl rfl⟩
  · have hb : Nat.beq r 0 = false := by
      cases e : Nat.beq r 0 with
      | false => rfl
      | true => exact absurd (Nat.eq_of_beq_eq_true e) h
    rw [if_neg h, hb, cond_false, Nat.shiftRight_eq_div_pow, Nat.testBit_eq_decide_div_mod_eq]
    by_cases e : mask p (p - 1) / 2 ^ r % 2 = 1
    · simp only [e, decide_true, if_true]
      exact ⟨rfl, .inr (.inl rfl)⟩
    · have : mask p (p - 1) / 2 ^ r % 2 = 0 := by omega
      simp only [this]
      exact ⟨rfl, .inr (.inr rfl)⟩
def cN (r8 : List Nat) (ms : List (Nat × Nat)) (a : Nat) : Nat := (ms.foldl (fun s x => s * fac x.2 (a % x.1)) (r8.getD (a % 8) 0)) % 3
def ms (d : Int) : List (Nat × Nat) := (odds d).map fun p => (p, mask p (p - 1))
theorem cN_fold (a : Nat) : ∀ (ps : List Nat) (s : Int) (n : Nat), (∀ p ∈ ps, 0 < p) → trit s → n % 3 = cd s →
    trit ((ps.map fun p => (false, (List.range p).map fun x => qr p x)).foldl (fun s x => s * x.2.getD (a % x.2.length) 0) s) ∧
    cd ((ps.map fun p => (false, (List.range p).map fun x => qr p x)).foldl (fun s x => s * x.2.getD (a % x.2.length) 0) s) = ((ps.map fun p => (p, mask p (p - 1))).foldl (fun s x => s * fac x.2 (a % x.1)) n) % 3
  | [], s, n, _, hs, hn => ⟨hs, hn.symm⟩
  | p :: ps, s, n, h0, hs, hn => by
    have hp := h0 p List.mem_cons_self
    have hg : ((List.range p).map fun x => qr p x).getD (a % ((List.range p).map fun x => qr p x).length) 0 = qr p (a % p) := by
      rw [List.getD_eq_getElem?_getD, List.length_map, List.length_range, List.getElem?_map, List.getElem?_range (Nat.mod_lt _ hp)]
      rfl
    have hq := fac_qr p (a % p)
    have hm := cd_mul hs hq.2
    rw [List.map_cons, List.map_cons, List.foldl_cons, List.foldl_cons]
    dsimp only
    rw [hg]
    exact cN_fold a ps _ _ (fun p hp => h0 p (List.mem_cons_of_mem _ hp)) hm.2 (by rw [hm.1, ← hq.1, ← hn, Nat.mod_mul_mod])
theorem cN_eq {d : Int} (hd : d ≠ 0) {r : List Int} (he : e8 (leftOf d) = some r) (a : Nat) : trit (chiR (rowsI d r) a) ∧ cd (chiR (rowsI d r) a) = cN (r.map cd) (ms d) a := by
  unfold chiR rowsI cN ms
  rw [List.foldl_cons]
  dsimp only
  have hr := e8_small he
  have h8 : trit (r.getD (a % r.length) 0) := by
    rw [List.getD_eq_getElem?_getD]
    cases e : r[a % r.length]? with
    | none => exact .inl rfl
    | some y =>
      have := hr.2 y (List.mem_of_getElem? e)
      show trit y
      unfold trit
      omega
  have hc : cd (r.getD (a % r.length) 0) = (r.map cd).getD (a % 8) 0 := by
    rw [hr.1, List.getD_eq_getElem?_getD, List.getD_eq_getElem?_getD, List.getElem?_map]
    have hlt : a % 8 < r.length := by rw [hr.1]; exact Nat.mod_lt _ (by decide)
    rw [List.getElem?_eq_getElem hlt]
    rfl
  rw [Int.one_mul]
  refine cN_fold a (odds d) _ _ (fun p hp => ?_) h8 ?_
  · have := (T_pos _ _ _ (Nat.le_refl _) (show 0 < d.natAbs by omega) p (List.mem_filter.mp hp).1).1
    omega
  · rw [← hc]
    unfold cd
    split
    · rfl
    · split <;> rfl
def sumN (g : Nat → Nat) : Nat → Nat
  | 0 => 0
  | i + 1 => sumN g i + g (i + 1)
theorem S_sumN {chi : Nat → Int} {c : Nat → Nat} (h : ∀ a, trit (chi a) ∧ cd (chi a) = c a) (j : Nat) : ∀ n, S chi n j = (sumN (fun a => a ^ j * (c a * (2 - c a))) n : Nat) - (sumN (fun a => a ^ j * (c a / 2)) n : Nat)
  | 0 => rfl
  | n + 1 => by
    have ih := S_sumN h j n
    show S chi n j + chi (n + 1) * ((n + 1 : Nat) : Int) ^ j = ((sumN _ n + (n + 1) ^ j * (c (n + 1) * (2 - c (n + 1))) : Nat) : Int) - ((sumN _ n + (n + 1) ^ j * (c (n + 1) / 2) : Nat) : Int)
    obtain ⟨ht, hc⟩ := h (n + 1)
    rw [ih, ← hc]
    have hx : chi (n + 1) = ((cd (chi (n + 1)) * (2 - cd (chi (n + 1))) : Nat) : Int) - ((cd (chi (n + 1)) / 2 : Nat) : Int) := by
      rcases ht with e | e | e <;> rw [e] <;> decide
    generalize cd (chi (n + 1)) * (2 - cd (chi (n + 1))) = u at *
    generalize cd (chi (n + 1)) / 2 = v at *
    rw [hx]
    push_cast
    grind
/-- class numbers, quickly -/
def cTestN (D a b : Nat) (s : Bool) : Nat :=
  bif Nat.beq ((b * b + D) % (4 * a)) 0 then
    (bif (Nat.blt a ((b * b + D) / (4 * a)) || (Nat.beq ((b * b + D) / (4 * a)) a && s)) then
      (bif Nat.beq (Nat.gcd (Nat.gcd a b) ((b * b + D) / (4 * a))) 1 then 1 else 0) else 0) else 0
def cRowN (D a : Nat) : Nat → Nat
  | 0 => 0
  | i + 1 => cRowN D a i + (bif Nat.ble a (i + 1) then cTestN D a (i + 1 - a) true else cTestN D a (a - (i + 1)) false)
def cAllN (D : Nat) : Nat → Nat
  | 0 => 0
  | i + 1 => cAllN D i + cRowN D (i + 1) (2 * (i + 1))

theorem cTestN_eq {D a : Nat} {b : Int} (ha : 0 < a) : cTest (-(D : Int)) a b = (cTestN D a b.natAbs (decide (0 ≤ b)) : Nat) := by
  unfold cTest cTestN
  have e : b * b - -(D : Int) = ((b.natAbs * b.natAbs + D : Nat) : Int) := by
    rw [Int.natCast_add, Int.natCast_mul]
    have : (b.natAbs : Int) * (b.natAbs : Int) = b * b := by
      rw [← Int.natCast_mul, ← Int.natAbs_mul]
      exact Int.natAbs_of_nonneg (by
        rcases Int.le_total 0 b with h | h
        · exact Int.mul_nonneg h h
        · exact Int.mul_nonneg_of_nonpos_of_nonpos h h)
    omega
  rw [e]
  have e4 : (4 * (a : Int)) = ((4 * a : Nat) : Int) := by omega
  rw [e4, ← Int.natCast_emod, ← Int.natCast_ediv, Int.natAbs_natCast]
  generalize b.natAbs * b.natAbs + D = t
  generalize hc : t / (4 * a) = c
  generalize hm : t % (4 * a) = m
  generalize Nat.gcd (Nat.gcd a b.natAbs) c = g
  by_cases h1 : m = 0
  · subst h1
    have : Nat.beq 0 0 = true := rfl
    have h0 : ((0 : Nat) : Int) = 0 := rfl
    rw [if_pos h0, this, cond_true]
    have hlt : Nat.blt a c = decide (a < c) := by
      by_cases z : a < c
      · simp [Nat.blt, Nat.ble_eq, z]
        omega
      · have : Nat.blt a c = false := by
          cases q : Nat.blt a c with
          | false => rfl
          | true => exact absurd (by have := q; simp [Nat.blt, Nat.ble_eq] at this; omega) z
        simp [this, z]
    have hbe : Nat.beq c a = decide (c = a) := by
      cases q : Nat.beq c a with
      | true => simp [Nat.eq_of_beq_eq_true q]
      | false => simp [Nat.ne_of_beq_eq_false q]
    have hg : Nat.beq g 1 = (g == 1) := by
      cases q : Nat.beq g 1 with
      | true => simp [Nat.eq_of_beq_eq_true q]
      | false => simp [Nat.ne_of_beq_eq_false q]
    rw [hlt, hbe, hg]
    clear hg
    generalize (g == 1) = gb
    by_cases h2 : a < c
    · have h2' : (a : Int) < (c : Int) := by omega
      cases gb <;> simp [h2, h2']
    · by_cases h3 : c = a
      · subst h3
        by_cases h4 : 0 ≤ b
        · cases gb <;> simp [h4]
        · cases gb <;> simp [h4]
      · have h2' : ¬ (a : Int) < (c : Int) := by omega
        have h3' : ¬ (c : Int) = (a : Int) := by omega
        simp [h2, h3, h2', h3']
  · have : Nat.beq m 0 = false := by
      cases q : Nat.beq m 0 with
      | false => rfl
      | true => exact absurd (Nat.eq_of_beq_eq_true q) h1
    have h1' : ¬ (m : Int) = 0 := by omega
    rw [if_neg h1', this, cond_false]
    rfl
theorem cRowN_eq {D a : Nat} (ha : 0 < a) : ∀ n, cRow (-(D : Int)) a n = (cRowN D a n : Nat)
  | 0 => rfl
  | i + 1 => by
    show cRow _ a i + cTest _ a (1 - (a : Int) + (i : Int)) = ((cRowN D a i + _ : Nat) : Int)
    rw [cRowN_eq ha i, cTestN_eq ha, ← Int.natCast_add]
    congr 2
    by_cases h : a ≤ i + 1
    · have h1 : (1 - (a : Int) + (i : Int)).natAbs = i + 1 - a := by omega
      have h2 : (decide (0 ≤ (1 - (a : Int) + (i : Int)))) = true := decide_eq_true (by omega)
      have h3 : Nat.ble a (i + 1) = true := Nat.ble_eq.mpr h
      rw [h1, h2, h3]
      rfl
    · have h1 : (1 - (a : Int) + (i : Int)).natAbs = a - (i + 1) := by omega
      have h2 : (decide (0 ≤ (1 - (a : Int) + (i : Int)))) = false := decide_eq_false (by omega)
      have h3 : Nat.ble a (i + 1) = false := by
        cases q : Nat.ble a (i + 1) with
        | false => rfl
        | true => exact absurd (Nat.ble_eq.mp q) h
      rw [h1, h2, h3]
      rfl
theorem cAllN_eq (D : Nat) : ∀ n, cAll (-(D : Int)) n = (cAllN D n : Nat)
  | 0 => rfl
  | i + 1 => by
    show cAll _ i + cRow _ (i + 1) (2 * (i + 1)) = _
    rw [cAllN_eq D i, cRowN_eq (by omega), ← Int.natCast_add]
    rfl
end NT

namespace NT
def listE : List Int := [-232, -228, -212, -184, -168, -164, -152, -148, -136, -132, -120, -116, -104, -88, -84, -68, -59, -56, -55, -52, -51, -47, -43, -40, -39, -35, -31, -24, -23, -20, -19, -15, -11, -8, -7, -4, -3, 1, 5, 8, 12, 13, 17, 21, 24, 28, 29, 33, 37, 40, 41, 44, 53, 56, 57, 60, 76, 88, 92, 104, 120, 124, 136, 140, 152, 156, 168, 172, 184, 188, 204, 220, 232, 236]
def allN (f : Nat → Bool) : Nat → Bool
  | 0 => true
  | i + 1 => allN f i && f i
def okE (d : Int) : Bool := match e8 (leftOf d) with
  | none => false
  | some r => decide (disc d = d) && decide (d ≠ 0) && decide (d.natAbs < 2048) && allN (fun i => decide (cd (chiL d (i + 1)) = cN (r.map cd) (ms d) (i + 1))) d.natAbs
theorem okEAll : listE.all okE = true := by decide +kernel
def inE (w : Nat) : Bool := listE.contains (disc (w : Int)) && listE.contains (disc (-(w : Int)))
theorem inEAll : (List.range 60).all (fun w => inE (w + 1)) = true := by decide +kernel
theorem rowAll : ∀ k : Fin 9, polyRow k = (List.range (k + 1)).map fun j => (comb k j : Rat) * nbQ (k - j) := by decide +kernel
def listW : List Int := [2, 3, 4, 9, 16, 20, -1, -2, -5, -9, -12, -16, 25, 48, 399999]
theorem wrongAll : listW.all (fun d => decide (disc d ≠ d)) = true := by decide +kernel
def known : List (Nat × Int × Int × Int) := [(2, 1, 1, 6), (4, 1, -1, 30), (6, 1, 1, 42), (8, 1, -1, 30), (1, 1, 1, 2), (3, 1, 0, 1), (1, -4, -1, 2), (1, -3, -1, 3), (2, 5, 4, 5), (2, 8, 2, 1), (2, 12, 4, 1), (3, -4, 3, 2), (3, -3, 2, 3)]
def okK (x : Nat × Int × Int × Int) : Bool := match e8 (leftOf x.2.1) with
  | none => false
  | some r => decide (1 ≤ x.1 ∧ x.1 ≤ 8) && decide (x.2.1 ≠ 0) && decide (x.2.1.natAbs ≤ 400000) && decide (disc x.2.1 = x.2.1) && decide ((progB x.1 x.2.1 r).num = x.2.2.1 ∧ ((progB x.1 x.2.1 r).den : Int) = x.2.2.2)
theorem knownAll : known.all okK = true := by decide +kernel
end NT

namespace NT
def lsD0 : List Nat := [7, 8, 11, 15, 19, 20, 23, 24, 31, 35, 39, 40, 43, 47, 51, 52, 55, 56, 59, 67, 68, 71, 79, 83, 84, 87, 88, 91, 95, 103, 104, 107, 111, 115, 116, 119, 120, 123, 127, 131, 132, 136, 139, 143, 148, 151, 152, 155, 159, 163, 164, 167, 168, 179, 183, 184, 187, 191, 195, 199, 203, 211, 212, 215, 219]
def lsD1 : List Nat := [223, 227, 228, 231, 232, 235, 239, 244, 247, 248, 251, 255, 259, 260, 263, 264, 267, 271, 276, 280, 283, 287, 291, 292, 295, 296, 299]
def lsD2 : List Nat := [303, 307, 308, 311, 312, 319, 323, 327, 328, 331, 335, 339, 340, 344, 347, 355, 356, 359, 367, 371, 372]
def lsD3 : List Nat := [376, 379, 383, 388, 391, 395, 399, 404, 408, 420, 424, 436, 440, 452, 456, 472, 488]
def lsD4 : List Nat := [516, 520, 532, 536, 548, 552, 564, 568, 580, 584, 596, 616, 628]
def lsD5 : List Nat := [632, 644, 660, 664, 680, 692, 696, 708, 712, 724, 728]
def lsD6 : List Nat := [740, 744, 760, 772, 776, 788, 804, 808, 820]
def lsD7 : List Nat := [824, 836, 840, 852, 856, 868, 872, 884, 888]
def lsD8 : List Nat := [904, 916, 920, 932, 948, 952, 964, 984]
def lsD9 : List Nat := [996, 1012, 1016, 1028, 1032, 1048, 1060]
def lsD10 : List Nat := [1064, 1076, 1092, 1096, 1108, 1112, 1124]
def lsD11 : List Nat := [1128, 1140, 1144, 1160, 1172, 1192, 1204]
def lsD12 : List Nat := [1208, 1220, 1236, 1240, 1252, 1256]
def lsD13 : List Nat := [1268, 1272, 1284, 1288, 1304, 1316]
def lsD14 : List Nat := [1320, 1336, 1348, 1364, 1380, 1384]
def lsD15 : List Nat := [1396, 1412, 1416, 1428, 1432]
def lsD16 : List Nat := [1448, 1460, 1464, 1480, 1492]
def lsD17 : List Nat := [1496, 1508, 1524, 1528, 1540]
def lsD18 : List Nat := [1544, 1556, 1560, 1572, 1576]
def lsD19 : List Nat := [1588, 1592]
def listD : List Nat := lsD0 ++ lsD1 ++ lsD2 ++ lsD3 ++ lsD4 ++ lsD5 ++ lsD6 ++ lsD7 ++ lsD8 ++ lsD9 ++ lsD10 ++ lsD11 ++ lsD12 ++ lsD13 ++ lsD14 ++ lsD15 ++ lsD16 ++ lsD17 ++ lsD18 ++ lsD19
def okD (D : Nat) : Bool := match e8 (leftOf (-(D : Int))) with
  | none => false
  | some r => decide (disc (-(D : Int)) = -(D : Int)) &&
    Nat.beq (sumN (fun a => a ^ 0 * (cN (r.map cd) (ms (-(D : Int))) a * (2 - cN (r.map cd) (ms (-(D : Int))) a))) D) (sumN (fun a => a ^ 0 * (cN (r.map cd) (ms (-(D : Int))) a / 2)) D) &&
    Nat.beq (sumN (fun a => a ^ 1 * (cN (r.map cd) (ms (-(D : Int))) a * (2 - cN (r.map cd) (ms (-(D : Int))) a))) D + cAllN D (rtF 40 (D / 3 + 1)) * D) (sumN (fun a => a ^ 1 * (cN (r.map cd) (ms (-(D : Int))) a / 2)) D)
theorem okD0 : lsD0.all okD = true := by decide +kernel
theorem okD1 : lsD1.all okD = true := by decide +kernel
theorem okD2 : lsD2.all okD = true := by decide +kernel
theorem okD3 : lsD3.all okD = true := by decide +kernel
theorem okD4 : lsD4.all okD = true := by decide +kernel
theorem okD5 : lsD5.all okD = true := by decide +kernel
theorem okD6 : lsD6.all okD = true := by decide +kernel
theorem okD7 : lsD7.all okD = true := by decide +kernel
theorem okD8 : lsD8.all okD = true := by decide +kernel
theorem okD9 : lsD9.all okD = true := by decide +kernel
theorem okD10 : lsD10.all okD = true := by decide +kernel
theorem okD11 : lsD11.all okD = true := by decide +kernel
theorem okD12 : lsD12.all okD = true := by decide +kernel
theorem okD13 : lsD13.all okD = true := by decide +kernel
theorem okD14 : lsD14.all okD = true := by decide +kernel
theorem okD15 : lsD15.all okD = true := by decide +kernel
theorem okD16 : lsD16.all okD = true := by decide +kernel
theorem okD17 : lsD17.all okD = true := by decide +kernel
theorem okD18 : lsD18.all okD = true := by decide +kernel
theorem okD19 : lsD19.all okD = true := by decide +kernel
theorem okAll : listD.all okD = true := by
  unfold listD
  simp only [List.all_append, okD0, okD1, okD2, okD3, okD4, okD5, okD6, okD7, okD8, okD9, okD10, okD11, okD12, okD13, okD14, okD15, okD16, okD17, okD18, okD19, Bool.and_true]
def inD (w : Nat) : Bool := match disc (-(w : Int)) with
  | .negSucc n => Nat.ble n 3 || listD.contains (n + 1)
  | .ofNat _ => false
theorem inAll : (List.range 400).all (fun w => inD (w + 1)) = true := by decide +kernel
end NT

namespace NT
theorem allN_get {f : Nat → Bool} : ∀ {n i : Nat}, allN f n = true → i < n → f i = true
  | n + 1, i, h, hi => by
    unfold allN at h
    rw [Bool.and_eq_true] at h
    by_cases e : i = n
    · rw [e]; exact h.2
    · exact allN_get h.1 (by omega)
theorem cd_inj {x y : Int} (hx : trit x) (hy : trit y) (h : cd x = cd y) : x = y := by
  rcases hx with rfl | rfl | rfl <;> rcases hy with rfl | rfl | rfl <;> first | rfl | (exact absurd h (by decide))
/-- the discriminants of the last question -/
theorem listE_ok {d : Int} (h : d ∈ listE) : d ≠ 0 ∧ d.natAbs < 2048 ∧ disc d = d ∧ ∃ r, e8 (leftOf d) = some r ∧ ∀ k, 1 ≤ k → k ≤ 8 → lawB k d = progB k d r := by
  have := List.all_eq_true.mp okEAll d h
  unfold okE at this
  split at this
  · cases this
  · rename_i r he
    simp only [Bool.and_eq_true, decide_eq_true_eq] at this
    obtain ⟨⟨⟨h1, h2⟩, h3⟩, h4⟩ := this
    refine ⟨h2, h3, h1, r, he, fun k hk1 hk2 => law_prog h2 (rowAll ⟨k, by omega⟩) fun i hi => ?_⟩
    have hc := of_decide_eq_true (allN_get h4 hi)
    have hn := cN_eq h2 he (i + 1)
    have ht : trit (chiL d (i + 1)) := by
      have := chiL_abs d (i + 1)
      unfold trit
      omega
    exact cd_inj ht hn.1 (by rw [hn.2]; exact hc)
theorem inE_ok {w : Nat} (h1 : 1 ≤ w) (h2 : w ≤ 60) : disc (w : Int) ∈ listE ∧ disc (-(w : Int)) ∈ listE := by
  have := List.all_eq_true.mp inEAll (w - 1) (by simp; omega)
  rw [Nat.sub_add_cancel h1] at this
  unfold inE at this
  rw [Bool.and_eq_true] at this
  exact ⟨List.contains_iff_mem.mp this.1, List.contains_iff_mem.mp this.2⟩
theorem listW_ok {d : Int} (h : d ∈ listW) : disc d ≠ d := of_decide_eq_true (List.all_eq_true.mp wrongAll d h)
theorem known_ok {k : Nat} {d a b : Int} (h : (k, d, a, b) ∈ known) : (1 ≤ k ∧ k ≤ 8) ∧ d ≠ 0 ∧ d.natAbs ≤ 400000 ∧ disc d = d ∧ ∃ r, e8 (leftOf d) = some r ∧ (progB k d r).num = a ∧ ((progB k d r).den : Int) = b := by
  have := List.all_eq_true.mp knownAll _ h
  unfold okK at this
  split at this
  · cases this
  · rename_i r he
    simp only [Bool.and_eq_true, decide_eq_true_eq] at this
    obtain ⟨⟨⟨⟨h1, h2⟩, h3⟩, h4⟩, h5⟩ := this
    exact ⟨h1, h2, h3, h4, r, he, h5.1, h5.2⟩
/-- class numbers -/
theorem listD_ok {D : Nat} (h : D ∈ listD) (hD : 0 < D) : disc (-(D : Int)) = -(D : Int) ∧ ∃ r, e8 (leftOf (-(D : Int))) = some r ∧ progB 1 (-(D : Int)) r = ((-(classNo (-(D : Int))) : Int) : Rat) := by
  have := List.all_eq_true.mp okAll D h
  unfold okD at this
  split at this
  · cases this
  · rename_i r he
    rw [Bool.and_eq_true, Bool.and_eq_true] at this
    obtain ⟨⟨h1, h2⟩, h3⟩ := this
    refine ⟨of_decide_eq_true h1, r, he, ?_⟩
    have hn := cN_eq (d := -(D : Int)) (by omega) he
    have s0 := S_sumN hn 0 D
    have s1 := S_sumN hn 1 D
    have e2 := Nat.eq_of_beq_eq_true h2
    have e3 := Nat.eq_of_beq_eq_true h3
    have hc : classNo (-(D : Int)) = (cAllN D (rtF 40 (D / 3 + 1)) : Nat) := by
      unfold classNo
      rw [Int.natAbs_neg, Int.natAbs_natCast]
      exact cAllN_eq D _
    rw [hc]
    have z0 : S (chiR (rowsI (-(D : Int)) r)) D 0 = 0 := by omega
    have z1 : S (chiR (rowsI (-(D : Int)) r)) D 1 = -((cAllN D (rtF 40 (D / 3 + 1)) * D : Nat) : Int) := by omega
    unfold progB
    rw [Int.natAbs_neg, Int.natAbs_natCast]
    show 0 + term 1 (D : Int) (S _ D 0) 0 + term 1 (D : Int) (S _ D 1) 1 = _
    rw [z0, z1]
    unfold term
    have c1 : comb 1 0 = 1 := by decide +kernel
    have c2 : comb 1 1 = 1 := by decide +kernel
    have n0 : nbQ (1 - 1) = 1 := by decide +kernel
    have hDr : (D : Rat) ≠ 0 := by
      have : D ≠ 0 := by omega
      exact_mod_cast this
    rw [c1, c2, n0]
    simp only [Rat.divInt_eq_div]
    clear e2 e3 s0 s1 z0 z1 hn h2 h3 h1 he hc h
    generalize cAllN D (rtF 40 (D / 3 + 1)) = hh
    push_cast
    grind
end NT

namespace K45
open PySem PySem.Spec PyProof.Rows L2 DM Sh NT
theorem same_num (M : Mem) : Sh.c__law_same 8 [numberT, numberT] M = .ok (.bl true) M := Sh.same_spec M 8 _ ⟨by decide, fun d hd => by
  simp only [List.mem_cons, List.not_mem_nil, or_false] at hd
  rcases hd with rfl | rfl | rfl <;> exact True.intro⟩
theorem same_great (M : Mem) : Sh.c__law_same 8 [greatT, greatT] M = .ok (.bl true) M := Sh.same_spec M 8 _ ⟨by decide, fun d hd => by
  simp only [List.mem_cons, List.not_mem_nil, or_false] at hd
  rcases hd with rfl | rfl | rfl <;> exact True.intro⟩
theorem refuses_spec {l : Nat} {M : Mem} (hp : PoolAt l M) : ∃ M', c__law_refuses [.loc l] M = .ok (.bl true) M' ∧ PStep l M M' := by
  obtain ⟨x1, M1, e1, h1, p1⟩ := pick_spec (ds := odd6) hp (by decide) (by decide)
  have q1 := hp.step p1
  have f1 := fault_disc (disc_bad h1 M1) (fun a b c d => hand_bad a b c d M1)
  obtain ⟨x2, M2, e2, h2, p2⟩ := pick_spec (ds := [.int 1000000001, .int (-1000000001), .int 1000000000000000000000000000000]) q1 (by simp) (by simp)
  have q2 := q1.step p2
  have f2 : c__law_fault [.str "discriminant", x2, .non] M2 = .ok greatT M2 := by
    simp only [List.mem_cons, List.not_mem_nil, or_false] at h2
    rcases h2 with rfl | rfl | rfl <;> exact fault_disc (disc_great (by decide) (by decide) M2) (fun a b c d => hand_great a b c d M2)
  obtain ⟨x3, M3, e3, h3, p3⟩ := pick_spec (ds := oddK) q2 (by decide) (by decide)
  have q3 := q2.step p3
  have f3 := fault_bern (bern_badK h3 (.int 400001) M3) (fun a b c d => hand_bad a b c d M3)
  have f4 := fault_bern (bern_badX (k := 2) (by decide) h1 M3) (fun a b c d => hand_bad a b c d M3)
  obtain ⟨x5, M5, e5, h5, p5⟩ := pick_spec (ds := [.int 400001, .int (-400004), .int 1000000000000000000000000000000, .int 400002]) q3 (by simp) (by simp)
  have q5 := q3.step p5
  have f5 : c__law_fault [.str "bernoulli", .int (2 : Nat), x5] M5 = .ok greatT M5 := by
    simp only [List.mem_cons, List.not_mem_nil, or_false] at h5
    rcases h5 with rfl | rfl | rfl | rfl <;> exact fault_bern (bern_great (by decide) (by decide) (by decide) M5) (fun a b c d => hand_great a b c d M5)
  obtain ⟨x6, M6, e6, h6, p6⟩ := pick_spec (ds := listW.map .int) q5 (by decide) (by decide)
  have q6 := q5.step p6
  obtain ⟨i, M7, e7, i0, i1, p7⟩ := take_spec q6 (n := 8) (by decide) (by decide) 0
  obtain ⟨w, hw, rfl⟩ := List.mem_map.mp h6
  have f7 : c__law_fault [.str "bernoulli", .int (1 + i), .int w] M7 = .ok numberT M7 := by
    have hk : (1 : Int) + i = ((1 + i.toNat : Nat) : Int) := by omega
    rw [hk]
    refine fault_bern (bern_wrong (by omega) ?_ ?_ (listW_ok hw) M7) (fun a b c d => hand_bad a b c d M7)
    · have : listW.all (fun w => decide (w ≠ 0)) = true := by decide
      exact of_decide_eq_true (List.all_eq_true.mp this w hw)
    · have : listW.all (fun w => decide (w.natAbs ≤ 400000)) = true := by decide
      exact of_decide_eq_true (List.all_eq_true.mp this w hw)
  refine ⟨M7, ?_, ((((p1.trans p2).trans p3).trans p5).trans p6).trans p7⟩
  have s1 := same_num M1
  have s2 := same_great M2
  have s3 := same_num M3
  have s5 := same_great M5
  have s7 := same_num M7
  unfold numberT at *
  unfold greatT at *
  unfold odd6 at e1
  unfold oddK at e3
  unfold listW at e6
  simp only [List.map_cons, List.map_nil] at e6
  have t8 : c__law_take 2 [.loc l, .int 8] M6 = .ok (.int i) M7 := e7
  have n2 : ((2 : Nat) : Int) = 2 := rfl
  rw [n2] at f4 f5
  unfold c__law_refuses m__law_refuses
  simp [startD, e1, f1, s1, CPow, e2, f2, s2, e3, f3, s3, f4, e5, f5, s5, e6, t8, f7, s7]
end K45

namespace K45
open PySem PySem.Spec PyProof.Rows L2 DM Sh NT
theorem same_encQ (q : Rat) (M : Mem) : Sh.c__law_same 8 [encQ q, encQ q] M = .ok (.bl true) M := Sh.same_spec M 8 _ ⟨by show 2 ≤ _; decide, fun d hd => by
  simp only [List.mem_cons, List.not_mem_nil, or_false] at hd
  rcases hd with rfl | rfl <;> exact True.intro⟩
theorem same_int (i : Int) (M : Mem) : Sh.c__law_same 8 [.int i, .int i] M = .ok (.bl true) M := Sh.same_spec M 8 _ True.intro
theorem same_bl (i : Bool) (M : Mem) : Sh.c__law_same 8 [.bl i, .bl i] M = .ok (.bl true) M := Sh.same_spec M 8 _ True.intro
def encK (x : Nat × Int × Int × Int) : D := .tup [.int x.1, .int x.2.1, .tup [.int x.2.2.1, .int x.2.2.2]]
theorem in_listD {w : Nat} (h1 : 1 ≤ w) (h2 : w ≤ 400) : ∃ D : Nat, 0 < D ∧ disc (-(w : Int)) = -(D : Int) ∧ (D ≤ 4 ∨ D ∈ listD) := by
  have := List.all_eq_true.mp inAll (w - 1) (by simp; omega)
  rw [Nat.sub_add_cancel h1] at this
  unfold inD at this
  split at this
  · rename_i n e
    refine ⟨n + 1, by omega, by rw [e]; rfl, ?_⟩
    rw [Bool.or_eq_true] at this
    rcases this with z | z
    · exact .inl (by have := Nat.ble_eq.mp z; omega)
    · exact .inr (List.contains_iff_mem.mp z)
  · cases this
theorem listD_small {D : Nat} (h : D ∈ listD) : 4 < D ∧ D ≤ 2000 := by
  have : listD.all (fun D => decide (4 < D ∧ D ≤ 2000)) = true := by decide +kernel
  exact of_decide_eq_true (List.all_eq_true.mp this D h)
theorem known_spec {l : Nat} {M : Mem} (hp : PoolAt l M) : ∃ M', c__law_known [.loc l] M = .ok (.bl true) M' ∧ PStep l M M' := by
  obtain ⟨x1, M1, e1, h1, p1⟩ := pick_spec (ds := known.map encK) hp (by decide) (by decide)
  have q1 := hp.step p1
  obtain ⟨⟨k, d, a, b⟩, hx, rfl⟩ := List.mem_map.mp h1
  obtain ⟨hk, hd, hd2, hdd, r, he, ha, hb⟩ := known_ok hx
  have n1 := number_spec hk hd hd2 hdd he M1
  have s1 := same_encQ (progB k d r) M1
  obtain ⟨i, M2, e2, i0, i1, p2⟩ := take_spec q1 (n := 400) (by decide) (by decide) 0
  have t2 : c__law_take 2 [.loc l, .int 400] M1 = .ok (.int i) M2 := e2
  have ew : (-1 : Int) - i = -((1 + i.toNat : Nat) : Int) := by omega
  have ld := lawDisc_spec (n := -((1 + i.toNat : Nat) : Int)) (by omega) (by omega) M2
  obtain ⟨D, hD, hdisc, hor⟩ := in_listD (w := 1 + i.toNat) (by omega) (by omega)
  rw [hdisc] at ld
  refine ⟨M2, ?_, p1.trans p2⟩
  have enc : encQ (progB k d r) = .tup [.int a, .int b] := by unfold encQ; rw [ha, hb]
  rw [enc] at n1 s1
  unfold known encK at e1
  simp only [List.map_cons, List.map_nil] at e1
  push_cast at e1
  generalize ((1 + i.toNat : Nat) : Int) = w at *
  unfold c__law_known m__law_known
  rcases hor with hs | hs
  · have h4 : ¬ (-(D : Int)) < -4 := by omega
    simp [startD, e1, n1, s1, t2, ew, ld, h4]
  · have hsm := listD_small hs
    have h4 : (-(D : Int)) < -4 := by omega
    obtain ⟨hdd2, r2, he2, hb2⟩ := listD_ok hs hD
    have n2 := number_spec (k := 1) (d := -(D : Int)) (by decide) (by omega) (by omega) hdd2 he2 M2
    have c2 := class_spec (d := -(D : Int)) (by omega) (by omega) M2
    have one : ((1 : Nat) : Int) = 1 := rfl
    rw [hb2, one] at n2
    have enc2 : encQ ((-(classNo (-(D : Int))) : Int) : Rat) = .tup [.int (-(classNo (-(D : Int)))), .int 1] := rfl
    have s2 := same_encQ ((-(classNo (-(D : Int))) : Int) : Rat) M2
    rw [enc2] at n2 s2
    simp [startD, e1, n1, s1, t2, ew, ld, h4, n2, c2, s2]
end K45

namespace K45
open PySem PySem.Spec PyProof.Rows L2 DM Sh NT
noncomputable abbrev turnB : SM := (sSeq (sSet 3 (eBin false oMul (eBin false oMul (eCall 2 (Sh.c__law_pick) (aCons (eVar 1) (aCons (eArgs false oLst (aCons (eC (.int 1)) (aCons (eUn false oNeg (eC (.int 1))) aNil))) aNil))) (eBin false oAdd (eC (.int 1)) (eCall 2 (Sh.c__law_take 2) (aCons (eVar 1) (aCons (eCall 2 (Sh.c__law_pick) (aCons (eVar 1) (aCons (eArgs false oLst (aCons (eC (.int 10)) (aCons (eC (.int 1000)) (aCons (eBin false oPow (eC (.int 10)) (eC (.int 6))) aNil)))) aNil))) aNil))))) (eCall 2 (Sh.c__law_pick) (aCons (eVar 1) (aCons (eArgs false oLst (aCons (eC (.int 1)) (aCons (eC (.int 4)) (aCons (eC (.int 9)) (aCons (eC (.int 49)) (aCons (eC (.int 8)) aNil)))))) aNil))))) (sIf (mNot (asT (eCall 2 (Sh.c__law_same 8) (aCons (eCall 1 (c_discriminant) (aCons (eVar 3) aNil)) (aCons (eCall 1 (c__law_discriminant) (aCons (eVar 3) aNil)) aNil))))) (sRet (eC (.bl false))) sNil))
theorem turn_spec {l : Nat} {M : Mem} (hp : PoolAt l M) (x0 x2 x3 x4 x5 : Option D) : ∃ M' x3', turnB [x0, some (.loc l), x2, x3, x4, x5] M = .nx [x0, some (.loc l), x2, x3', x4, x5] M' ∧ PoolAt l M' := by
  obtain ⟨s1, M1, e1, h1, p1⟩ := pick_spec (ds := [.int 1, .int (-1)]) hp (by simp) (by simp)
  have q1 := hp.step p1
  obtain ⟨s2, M2, e2, h2, p2⟩ := pick_spec (ds := [.int 10, .int 1000, .int 1000000]) q1 (by simp) (by simp)
  have q2 := q1.step p2
  have hs1 : ∃ s : Int, s1 = .int s ∧ (s = 1 ∨ s = -1) := by
    simp only [List.mem_cons, List.not_mem_nil, or_false] at h1
    rcases h1 with rfl | rfl
    · exact ⟨1, rfl, .inl rfl⟩
    · exact ⟨-1, rfl, .inr rfl⟩
  have hs2 : ∃ n : Int, s2 = .int n ∧ 0 < n ∧ n ≤ 1000000 := by
    simp only [List.mem_cons, List.not_mem_nil, or_false] at h2
    rcases h2 with rfl | rfl | rfl
    · exact ⟨_, rfl, by decide, by decide⟩
    · exact ⟨_, rfl, by decide, by decide⟩
    · exact ⟨_, rfl, by decide, by decide⟩
  obtain ⟨s, rfl, hs⟩ := hs1
  obtain ⟨n, rfl, hn0, hn1⟩ := hs2
  obtain ⟨i, M3, e3, i0, i1, p3⟩ := take_spec q2 (n := n) hn0 (by omega) 0
  have t3 : c__law_take 2 [.loc l, .int n] M2 = .ok (.int i) M3 := e3
  have q3 := q2.step p3
  obtain ⟨s4, M4, e4, h4, p4⟩ := pick_spec (ds := [.int 1, .int 4, .int 9, .int 49, .int 8]) q3 (by simp) (by simp)
  have q4 := q3.step p4
  have hs4 : ∃ m : Int, s4 = .int m ∧ 0 < m ∧ m ≤ 49 := by
    simp only [List.mem_cons, List.not_mem_nil, or_false] at h4
    rcases h4 with rfl | rfl | rfl | rfl | rfl
    all_goals exact ⟨_, rfl, by decide, by decide⟩
  obtain ⟨m, rfl, hm0, hm1⟩ := hs4
  have ha : (s * (1 + i) * m).natAbs = (1 + i).natAbs * m.natAbs := by
    rw [Int.natAbs_mul, Int.natAbs_mul]
    rcases hs with rfl | rfl <;> simp
  have hb : (1 + i).natAbs * m.natAbs ≤ 1000000 * 49 := Nat.mul_le_mul (by omega) (by omega)
  have hc : 0 < (1 + i).natAbs * m.natAbs := Nat.mul_pos (by omega) (by omega)
  have d1 := discriminant_spec (n := s * (1 + i) * m) (by omega) (by omega) M4
  have d2 := lawDisc_spec (n := s * (1 + i) * m) (by omega) (by omega) M4
  have sm := same_int (disc (s * (1 + i) * m)) M4
  have c1 : CMulG s (1 + i) := cmul_l (by omega)
  have c2 : CMulG (s * (1 + i)) m := cmul_r (by omega)
  refine ⟨M4, some (.int (s * (1 + i) * m)), ?_, q4⟩
  simp [e1, CPow, e2, t3, c1, e4, c2, d1, d2, sm]
theorem law_true (ns : List Int) (hn : ns.length ≤ 63) : ∃ M, m_law (startD N_law [.scr ns]) [] = .rt (.bl true) M := by
  obtain ⟨M0, e0, q0⟩ := pool_spec ns hn
  obtain ⟨M1, e1, p1⟩ := refuses_spec q0
  have q1 := q0.step p1
  obtain ⟨M2, e2, p2⟩ := known_spec q1
  have q2 := q1.step p2
  obtain ⟨τ3, M3, e3, q3, t2, t3, rfl⟩ := forL_range (g := mName 2) (b := turnB) (lo := 0) (n := 3)
    (R := fun _ τ M => PoolAt 0 M ∧ ∃ t2 t3, τ = [some (.scr ns), some (.loc 0), t2, t3, none, none])
    (fun i τ M hi hR => by
      obtain ⟨hp, t2, t3, rfl⟩ := hR
      obtain ⟨M', x3', e, hp'⟩ := turn_spec hp (some (.scr ns)) (some (.int (0 + i))) t3 none none
      exact ⟨[some (.scr ns), some (.loc 0), some (.int (0 + i)), t3, none, none], M, _, M', by simp, .inl e, hp', _, _, rfl⟩)
    (τ := [some (.scr ns), some (.loc 0), none, none, none, none]) (M := M2) ⟨q2, _, _, rfl⟩
  obtain ⟨s4, M4, e4, h4, p4⟩ := pick_spec (ds := [.int 1000000000, .int (-1000000000), .int 999999937, .int (-999999937)]) q3 (by simp) (by simp)
  have q4 := q3.step p4
  have hs4 : ∃ n : Int, s4 = .int n ∧ n ≠ 0 ∧ n.natAbs ≤ 1000000000 := by
    simp only [List.mem_cons, List.not_mem_nil, or_false] at h4
    rcases h4 with rfl | rfl | rfl | rfl
    all_goals exact ⟨_, rfl, by decide, by decide⟩
  obtain ⟨n, rfl, hn0, hn1⟩ := hs4
  have d4 := discriminant_spec hn0 hn1 M4
  have dn := disc_ne n hn0
  have sb := same_bl true M4
  obtain ⟨i5, M5, e5, i50, i51, p5⟩ := take_spec q4 (n := 8) (by decide) (by decide) 0
  have t5 : c__law_take 2 [.loc 0, .int 8] M4 = .ok (.int i5) M5 := e5
  have q5 := q4.step p5
  obtain ⟨s6, M6, e6, h6, p6⟩ := pick_spec (ds := [.int 1, .int (-1)]) q5 (by simp) (by simp)
  have q6 := q5.step p6
  obtain ⟨i7, M7, e7, i70, i71, p7⟩ := take_spec q6 (n := 60) (by decide) (by decide) 0
  have t7 : c__law_take 2 [.loc 0, .int 60] M6 = .ok (.int i7) M7 := e7
  have hs6 : ∃ s : Int, s6 = .int s ∧ (s = 1 ∨ s = -1) := by
    simp only [List.mem_cons, List.not_mem_nil, or_false] at h6
    rcases h6 with rfl | rfl
    · exact ⟨1, rfl, .inl rfl⟩
    · exact ⟨-1, rfl, .inr rfl⟩
  obtain ⟨s, rfl, hs⟩ := hs6
  have c7 : CMulG s (1 + i7) := cmul_l (by omega)
  have hd : disc (s * (1 + i7)) ∈ listE := by
    have hw := inE_ok (w := 1 + i7.toNat) (by omega) (by omega)
    have e : (1 : Int) + i7 = ((1 + i7.toNat : Nat) : Int) := by omega
    rw [e]
    rcases hs with rfl | rfl
    · rw [Int.one_mul]; exact hw.1
    · rw [Int.neg_mul, Int.one_mul]; exact hw.2
  have ld := lawDisc_spec (n := s * (1 + i7)) (by rcases hs with rfl | rfl <;> omega) (by rcases hs with rfl | rfl <;> omega) M7
  generalize hdd : disc (s * (1 + i7)) = d at *
  obtain ⟨a1, a2, a3, r, a4, a5⟩ := listE_ok hd
  have hk : (1 : Int) + i5 = ((1 + i5.toNat : Nat) : Int) := by omega
  have b1 := number_spec (k := 1 + i5.toNat) (by omega) a1 (by omega) a3 a4 M7
  have b2 := lawBernoulli_spec (k := 1 + i5.toNat) (by omega) a1 (by omega) M7
  rw [a5 _ (by omega) (by omega)] at b2
  have sq := same_encQ (progB (1 + i5.toNat) d r) M7
  generalize encQ (progB (1 + i5.toNat) d r) = Dq at *
  rw [← hk] at b1 b2
  refine ⟨M7, ?_⟩
  unfold m_law
  simp [startD, e0, e1, e2, e3, CPow, e4, d4, dn, sb, t5, e6, t7, c7, ld, b1, b2, sq]
end K45

namespace K45
open PySem PySem.Spec PyProof.Rows L2 DM
def topS (i : Nat) : Stmt := PySem.Challenge.pw_generaproved_k45_whole_discriminants.main.body.getD i (.Pass ⟨0, 0, 0, 0⟩)
abbrev s_power : Stmt := topS 4
abbrev s_primes_in : Stmt := topS 5
abbrev s_parted : Stmt := topS 6
abbrev s_often_in : Stmt := topS 7
abbrev s_is_whole : Stmt := topS 9
abbrev s_fraction : Stmt := topS 13
abbrev s_sum_of : Stmt := topS 14
abbrev s_times_of : Stmt := topS 15
abbrev s_told_whole : Stmt := topS 19
abbrev s_discriminant_of : Stmt := topS 25
abbrev s_discriminant : Stmt := topS 26
abbrev s_squares_row : Stmt := topS 27
abbrev s_periods_of : Stmt := topS 28
abbrev s_power_sums : Stmt := topS 29
abbrev s_bernoulli_of : Stmt := topS 30
abbrev s_bernoulli_number : Stmt := topS 31
abbrev s__law_pool : Stmt := topS 33
abbrev s__law_take : Stmt := topS 34
abbrev s__law_pick : Stmt := topS 35
abbrev s__law_is_integer : Stmt := topS 36
abbrev s__law_same : Stmt := topS 37
abbrev s__law_power : Stmt := topS 38
abbrev s__law_common : Stmt := topS 39
abbrev s__law_root : Stmt := topS 40
abbrev s__law_fraction_of : Stmt := topS 41
abbrev s__law_plus : Stmt := topS 42
abbrev s__law_times : Stmt := topS 43
abbrev s__law_often : Stmt := topS 44
abbrev s__law_power_modulo : Stmt := topS 45
abbrev s__law_sign : Stmt := topS 46
abbrev s__law_primes_in : Stmt := topS 47
abbrev s__law_discriminant : Stmt := topS 48
abbrev s__law_character : Stmt := topS 49
abbrev s__law_polynomial : Stmt := topS 50
abbrev s__law_bernoulli : Stmt := topS 51
abbrev s__law_class_number : Stmt := topS 52
abbrev s__law_fault : Stmt := topS 53
abbrev s__law_refuses : Stmt := topS 54
abbrev s__law_known : Stmt := topS 55
abbrev s_law : Stmt := topS 56
theorem sc_power : FnScope Sh.N_power ["base", "many"] (defScope s_power) := ⟨rfl, rfl, rfl, by decide +kernel, rfl, by decide +kernel, by decide +kernel⟩
theorem sc_primes_in : FnScope N_primes_in ["number"] (defScope s_primes_in) := ⟨rfl, rfl, rfl, by decide +kernel, rfl, by decide +kernel, by decide +kernel⟩
theorem sc_parted : FnScope N_parted ["number", "p"] (defScope s_parted) := ⟨rfl, rfl, rfl, by decide +kernel, rfl, by decide +kernel, by decide +kernel⟩
theorem sc_often_in : FnScope N_often_in ["number", "p"] (defScope s_often_in) := ⟨rfl, rfl, rfl, by decide +kernel, rfl, by decide +kernel, by decide +kernel⟩
theorem sc_is_whole : FnScope Sh.N_is_whole ["value"] (defScope s_is_whole) := ⟨rfl, rfl, rfl, by decide +kernel, rfl, by decide +kernel, by decide +kernel⟩
theorem sc_fraction : FnScope N_fraction ["n", "d"] (defScope s_fraction) := ⟨rfl, rfl, rfl, by decide +kernel, rfl, by decide +kernel, by decide +kernel⟩
theorem sc_sum_of : FnScope N_sum_of ["one", "other"] (defScope s_sum_of) := ⟨rfl, rfl, rfl, by decide +kernel, rfl, by decide +kernel, by decide +kernel⟩
theorem sc_times_of : FnScope N_times_of ["one", "other"] (defScope s_times_of) := ⟨rfl, rfl, rfl, by decide +kernel, rfl, by decide +kernel, by decide +kernel⟩
theorem sc_told_whole : FnScope N_told_whole ["number", "least"] (defScope s_told_whole) := ⟨rfl, rfl, rfl, by decide +kernel, rfl, by decide +kernel, by decide +kernel⟩
theorem sc_discriminant_of : FnScope N_discriminant_of ["number"] (defScope s_discriminant_of) := ⟨rfl, rfl, rfl, by decide +kernel, rfl, by decide +kernel, by decide +kernel⟩
theorem sc_discriminant : FnScope N_discriminant ["number"] (defScope s_discriminant) := ⟨rfl, rfl, rfl, by decide +kernel, rfl, by decide +kernel, by decide +kernel⟩
theorem sc_squares_row : FnScope N_squares_row ["p"] (defScope s_squares_row) := ⟨rfl, rfl, rfl, by decide +kernel, rfl, by decide +kernel, by decide +kernel⟩
theorem sc_periods_of : FnScope N_periods_of ["d"] (defScope s_periods_of) := ⟨rfl, rfl, rfl, by decide +kernel, rfl, by decide +kernel, by decide +kernel⟩
theorem sc_power_sums : FnScope N_power_sums ["d", "most"] (defScope s_power_sums) := ⟨rfl, rfl, rfl, by decide +kernel, rfl, by decide +kernel, by decide +kernel⟩
theorem sc_bernoulli_of : FnScope N_bernoulli_of ["k", "d"] (defScope s_bernoulli_of) := ⟨rfl, rfl, rfl, by decide +kernel, rfl, by decide +kernel, by decide +kernel⟩
theorem sc_bernoulli_number : FnScope N_bernoulli_number ["k", "d"] (defScope s_bernoulli_number) := ⟨rfl, rfl, rfl, by decide +kernel, rfl, by decide +kernel, by decide +kernel⟩
theorem sc__law_pool : FnScope Sh.N__law_pool ["script"] (defScope s__law_pool) := ⟨rfl, rfl, rfl, by decide +kernel, rfl, by decide +kernel, by decide +kernel⟩
theorem sc__law_take : FnScope Sh.N__law_take ["pool", "many"] (defScope s__law_take) := ⟨rfl, rfl, rfl, by decide +kernel, rfl, by decide +kernel, by decide +kernel⟩
theorem sc__law_pick : FnScope Sh.N__law_pick ["pool", "rows"] (defScope s__law_pick) := ⟨rfl, rfl, rfl, by decide +kernel, rfl, by decide +kernel, by decide +kernel⟩
theorem sc__law_is_integer : FnScope Sh.N__law_is_integer ["actual"] (defScope s__law_is_integer) := ⟨rfl, rfl, rfl, by decide +kernel, rfl, by decide +kernel, by decide +kernel⟩
theorem sc__law_same : FnScope Sh.N__law_same ["actual", "due"] (defScope s__law_same) := ⟨rfl, rfl, rfl, by decide +kernel, rfl, by decide +kernel, by decide +kernel⟩
theorem sc__law_power : FnScope Sh.N__law_power ["base", "many"] (defScope s__law_power) := ⟨rfl, rfl, rfl, by decide +kernel, rfl, by decide +kernel, by decide +kernel⟩
theorem sc__law_common : FnScope N__law_common ["one", "other"] (defScope s__law_common) := ⟨rfl, rfl, rfl, by decide +kernel, rfl, by decide +kernel, by decide +kernel⟩
theorem sc__law_root : FnScope N__law_root ["number"] (defScope s__law_root) := ⟨rfl, rfl, rfl, by decide +kernel, rfl, by decide +kernel, by decide +kernel⟩
theorem sc__law_fraction_of : FnScope N__law_fraction_of ["n", "d"] (defScope s__law_fraction_of) := ⟨rfl, rfl, rfl, by decide +kernel, rfl, by decide +kernel, by decide +kernel⟩
theorem sc__law_plus : FnScope N__law_plus ["one", "other"] (defScope s__law_plus) := ⟨rfl, rfl, rfl, by decide +kernel, rfl, by decide +kernel, by decide +kernel⟩
theorem sc__law_times : FnScope N__law_times ["one", "other"] (defScope s__law_times) := ⟨rfl, rfl, rfl, by decide +kernel, rfl, by decide +kernel, by decide +kernel⟩
theorem sc__law_often : FnScope N__law_often ["number", "p"] (defScope s__law_often) := ⟨rfl, rfl, rfl, by decide +kernel, rfl, by decide +kernel, by decide +kernel⟩
theorem sc__law_power_modulo : FnScope N__law_power_modulo ["base", "many", "q"] (defScope s__law_power_modulo) := ⟨rfl, rfl, rfl, by decide +kernel, rfl, by decide +kernel, by decide +kernel⟩
theorem sc__law_sign : FnScope N__law_sign ["number", "p"] (defScope s__law_sign) := ⟨rfl, rfl, rfl, by decide +kernel, rfl, by decide +kernel, by decide +kernel⟩
theorem sc__law_primes_in : FnScope N__law_primes_in ["number"] (defScope s__law_primes_in) := ⟨rfl, rfl, rfl, by decide +kernel, rfl, by decide +kernel, by decide +kernel⟩
theorem sc__law_discriminant : FnScope N__law_discriminant ["number"] (defScope s__law_discriminant) := ⟨rfl, rfl, rfl, by decide +kernel, rfl, by decide +kernel, by decide +kernel⟩
theorem sc__law_character : FnScope N__law_character ["d", "a"] (defScope s__law_character) := ⟨rfl, rfl, rfl, by decide +kernel, rfl, by decide +kernel, by decide +kernel⟩
theorem sc__law_polynomial : FnScope N__law_polynomial ["k"] (defScope s__law_polynomial) := ⟨rfl, rfl, rfl, by decide +kernel, rfl, by decide +kernel, by decide +kernel⟩
theorem sc__law_bernoulli : FnScope N__law_bernoulli ["k", "d"] (defScope s__law_bernoulli) := ⟨rfl, rfl, rfl, by decide +kernel, rfl, by decide +kernel, by decide +kernel⟩
theorem sc__law_class_number : FnScope N__law_class_number ["d"] (defScope s__law_class_number) := ⟨rfl, rfl, rfl, by decide +kernel, rfl, by decide +kernel, by decide +kernel⟩
theorem sc__law_fault : FnScope N__law_fault ["word", "one", "two"] (defScope s__law_fault) := ⟨rfl, rfl, rfl, by decide +kernel, rfl, by decide +kernel, by decide +kernel⟩
theorem sc__law_refuses : FnScope N__law_refuses ["pool"] (defScope s__law_refuses) := ⟨rfl, rfl, rfl, by decide +kernel, rfl, by decide +kernel, by decide +kernel⟩
theorem sc__law_known : FnScope N__law_known ["pool"] (defScope s__law_known) := ⟨rfl, rfl, rfl, by decide +kernel, rfl, by decide +kernel, by decide +kernel⟩
theorem sc_law : FnScope N_law ["script"] (defScope s_law) := ⟨rfl, rfl, rfl, by decide +kernel, rfl, by decide +kernel, by decide +kernel⟩
/-! ### the text behind the top -/
structure Txt (G : Gd) (mg : Str → Option Value) where
  f_power : Addr
  d_power : FuncData
  F_power : Fun G.K "power" "power" s_power f_power d_power
  g_power : mg "power" = some (.ref f_power)
  f_primes_in : Addr
  d_primes_in : FuncData
  F_primes_in : Fun G.K "primes_in" "primes_in" s_primes_in f_primes_in d_primes_in
  g_primes_in : mg "primes_in" = some (.ref f_primes_in)
  f_parted : Addr
  d_parted : FuncData
  F_parted : Fun G.K "parted" "parted" s_parted f_parted d_parted
  g_parted : mg "parted" = some (.ref f_parted)
  f_often_in : Addr
  d_often_in : FuncData
  F_often_in : Fun G.K "often_in" "often_in" s_often_in f_often_in d_often_in
  g_often_in : mg "often_in" = some (.ref f_often_in)
  f_is_whole : Addr
  d_is_whole : FuncData
  F_is_whole : Fun G.K "is_whole" "is_whole" s_is_whole f_is_whole d_is_whole
  g_is_whole : mg "is_whole" = some (.ref f_is_whole)
  f_fraction : Addr
  d_fraction : FuncData
  F_fraction : Fun G.K "fraction" "fraction" s_fraction f_fraction d_fraction
  g_fraction : mg "fraction" = some (.ref f_fraction)
  f_sum_of : Addr
  d_sum_of : FuncData
  F_sum_of : Fun G.K "sum_of" "sum_of" s_sum_of f_sum_of d_sum_of
  g_sum_of : mg "sum_of" = some (.ref f_sum_of)
  f_times_of : Addr
  d_times_of : FuncData
  F_times_of : Fun G.K "times_of" "times_of" s_times_of f_times_of d_times_of
  g_times_of : mg "times_of" = some (.ref f_times_of)
  f_told_whole : Addr
  d_told_whole : FuncData
  F_told_whole : Fun G.K "told_whole" "told_whole" s_told_whole f_told_whole d_told_whole
  g_told_whole : mg "told_whole" = some (.ref f_told_whole)
  f_discriminant_of : Addr
  d_discriminant_of : FuncData
  F_discriminant_of : Fun G.K "discriminant_of" "discriminant_of" s_discriminant_of f_discriminant_of d_discriminant_of
  g_discriminant_of : mg "discriminant_of" = some (.ref f_discriminant_of)
  f_discriminant : Addr
  d_discriminant : FuncData
  F_discriminant : Fun G.K "discriminant" "discriminant" s_discriminant f_discriminant d_discriminant
  g_discriminant : mg "discriminant" = some (.ref f_discriminant)
  f_squares_row : Addr
  d_squares_row : FuncData
  F_squares_row : Fun G.K "squares_row" "squares_row" s_squares_row f_squares_row d_squares_row
  g_squares_row : mg "squares_row" = some (.ref f_squares_row)
  f_periods_of : Addr
  d_periods_of : FuncData
  F_periods_of : Fun G.K "periods_of" "periods_of" s_periods_of f_periods_of d_periods_of
  g_periods_of : mg "periods_of" = some (.ref f_periods_of)
  f_power_sums : Addr
  d_power_sums : FuncData
  F_power_sums : Fun G.K "power_sums" "power_sums" s_power_sums f_power_sums d_power_sums
  g_power_sums : mg "power_sums" = some (.ref f_power_sums)
  f_bernoulli_of : Addr
  d_bernoulli_of : FuncData
  F_bernoulli_of : Fun G.K "bernoulli_of" "bernoulli_of" s_bernoulli_of f_bernoulli_of d_bernoulli_of
  g_bernoulli_of : mg "bernoulli_of" = some (.ref f_bernoulli_of)
  f_bernoulli_number : Addr
  d_bernoulli_number : FuncData
  F_bernoulli_number : Fun G.K "bernoulli_number" "bernoulli_number" s_bernoulli_number f_bernoulli_number d_bernoulli_number
  g_bernoulli_number : mg "bernoulli_number" = some (.ref f_bernoulli_number)
  f__law_pool : Addr
  d__law_pool : FuncData
  F__law_pool : Fun G.K "_law_pool" "_law_pool" s__law_pool f__law_pool d__law_pool
  g__law_pool : mg "_law_pool" = some (.ref f__law_pool)
  f__law_take : Addr
  d__law_take : FuncData
  F__law_take : Fun G.K "_law_take" "_law_take" s__law_take f__law_take d__law_take
  g__law_take : mg "_law_take" = some (.ref f__law_take)
  f__law_pick : Addr
  d__law_pick : FuncData
  F__law_pick : Fun G.K "_law_pick" "_law_pick" s__law_pick f__law_pick d__law_pick
  g__law_pick : mg "_law_pick" = some (.ref f__law_pick)
  f__law_is_integer : Addr
  d__law_is_integer : FuncData
  F__law_is_integer : Fun G.K "_law_is_integer" "_law_is_integer" s__law_is_integer f__law_is_integer d__law_is_integer
  g__law_is_integer : mg "_law_is_integer" = some (.ref f__law_is_integer)
  f__law_same : Addr
  d__law_same : FuncData
  F__law_same : Fun G.K "_law_same" "_law_same" s__law_same f__law_same d__law_same
  g__law_same : mg "_law_same" = some (.ref f__law_same)
  f__law_power : Addr
  d__law_power : FuncData
  F__law_power : Fun G.K "_law_power" "_law_power" s__law_power f__law_power d__law_power
  g__law_power : mg "_law_power" = some (.ref f__law_power)
  f__law_common : Addr
  d__law_common : FuncData
  F__law_common : Fun G.K "_law_common" "_law_common" s__law_common f__law_common d__law_common
  g__law_common : mg "_law_common" = some (.ref f__law_common)
  f__law_root : Addr
  d__law_root : FuncData
  F__law_root : Fun G.K "_law_root" "_law_root" s__law_root f__law_root d__law_root
  g__law_root : mg "_law_root" = some (.ref f__law_root)
  f__law_fraction_of : Addr
  d__law_fraction_of : FuncData
  F__law_fraction_of : Fun G.K "_law_fraction_of" "_law_fraction_of" s__law_fraction_of f__law_fraction_of d__law_fraction_of
  g__law_fraction_of : mg "_law_fraction_of" = some (.ref f__law_fraction_of)
  f__law_plus : Addr
  d__law_plus : FuncData
  F__law_plus : Fun G.K "_law_plus" "_law_plus" s__law_plus f__law_plus d__law_plus
  g__law_plus : mg "_law_plus" = some (.ref f__law_plus)
  f__law_times : Addr
  d__law_times : FuncData
  F__law_times : Fun G.K "_law_times" "_law_times" s__law_times f__law_times d__law_times
  g__law_times : mg "_law_times" = some (.ref f__law_times)
  f__law_often : Addr
  d__law_often : FuncData
  F__law_often : Fun G.K "_law_often" "_law_often" s__law_often f__law_often d__law_often
  g__law_often : mg "_law_often" = some (.ref f__law_often)
  f__law_power_modulo : Addr
  d__law_power_modulo : FuncData
  F__law_power_modulo : Fun G.K "_law_power_modulo" "_law_power_modulo" s__law_power_modulo f__law_power_modulo d__law_power_modulo
  g__law_power_modulo : mg "_law_power_modulo" = some (.ref f__law_power_modulo)
  f__law_sign : Addr
  d__law_sign : FuncData
  F__law_sign : Fun G.K "_law_sign" "_law_sign" s__law_sign f__law_sign d__law_sign
  g__law_sign : mg "_law_sign" = some (.ref f__law_sign)
  f__law_primes_in : Addr
  d__law_primes_in : FuncData
  F__law_primes_in : Fun G.K "_law_primes_in" "_law_primes_in" s__law_primes_in f__law_primes_in d__law_primes_in
  g__law_primes_in : mg "_law_primes_in" = some (.ref f__law_primes_in)
  f__law_discriminant : Addr
  d__law_discriminant : FuncData
  F__law_discriminant : Fun G.K "_law_discriminant" "_law_discriminant" s__law_discriminant f__law_discriminant d__law_discriminant
  g__law_discriminant : mg "_law_discriminant" = some (.ref f__law_discriminant)
  f__law_character : Addr
  d__law_character : FuncData
  F__law_character : Fun G.K "_law_character" "_law_character" s__law_character f__law_character d__law_character
  g__law_character : mg "_law_character" = some (.ref f__law_character)
  f__law_polynomial : Addr
  d__law_polynomial : FuncData
  F__law_polynomial : Fun G.K "_law_polynomial" "_law_polynomial" s__law_polynomial f__law_polynomial d__law_polynomial
  g__law_polynomial : mg "_law_polynomial" = some (.ref f__law_polynomial)
  f__law_bernoulli : Addr
  d__law_bernoulli : FuncData
  F__law_bernoulli : Fun G.K "_law_bernoulli" "_law_bernoulli" s__law_bernoulli f__law_bernoulli d__law_bernoulli
  g__law_bernoulli : mg "_law_bernoulli" = some (.ref f__law_bernoulli)
  f__law_class_number : Addr
  d__law_class_number : FuncData
  F__law_class_number : Fun G.K "_law_class_number" "_law_class_number" s__law_class_number f__law_class_number d__law_class_number
  g__law_class_number : mg "_law_class_number" = some (.ref f__law_class_number)
  f__law_fault : Addr
  d__law_fault : FuncData
  F__law_fault : Fun G.K "_law_fault" "_law_fault" s__law_fault f__law_fault d__law_fault
  g__law_fault : mg "_law_fault" = some (.ref f__law_fault)
  f__law_refuses : Addr
  d__law_refuses : FuncData
  F__law_refuses : Fun G.K "_law_refuses" "_law_refuses" s__law_refuses f__law_refuses d__law_refuses
  g__law_refuses : mg "_law_refuses" = some (.ref f__law_refuses)
  f__law_known : Addr
  d__law_known : FuncData
  F__law_known : Fun G.K "_law_known" "_law_known" s__law_known f__law_known d__law_known
  g__law_known : mg "_law_known" = some (.ref f__law_known)
  f_law : Addr
  d_law : FuncData
  F_law : Fun G.K "law" "law" s_law f_law d_law
  g_law : mg "law" = some (.ref f_law)
  n_abs : mg "abs" = none
  n_all : mg "all" = none
  n_bool : mg "bool" = none
  n_enumerate : mg "enumerate" = none
  n_int : mg "int" = none
  n_isinstance : mg "isinstance" = none
  n_len : mg "len" = none
  n_list : mg "list" = none
  n_range : mg "range" = none
  n_str : mg "str" = none
  n_tuple : mg "tuple" = none
  t_MOST_GIVEN : Tok
  v_MOST_GIVEN : mg "MOST_GIVEN" = some (.int (1000000000) t_MOST_GIVEN)
  t_MOST_PERIOD : Tok
  v_MOST_PERIOD : mg "MOST_PERIOD" = some (.int (400000) t_MOST_PERIOD)
  t_MOST_WHOLE : Tok
  v_MOST_WHOLE : mg "MOST_WHOLE" = some (.int (1000000000000000000000000000000000000000000000000000000000000) t_MOST_WHOLE)
  v_NUMBERS : ∃ u, mg "NUMBERS" = some (.ref u) ∧ ∀ W : Wd, Rep G W k_NUMBERS (.ref u)
  v_EIGHTHS : ∃ u, mg "EIGHTHS" = some (.ref u) ∧ KDict G u rows_EIGHTHS
  i_comb : mg "comb" = some (.builtin "math.comb")
  i_gcd : mg "gcd" = some (.builtin "math.gcd")
  C_BadNumber : Addr
  g_BadNumber : mg "BadNumber" = some (.ref C_BadNumber)
  a_BadNumber : G.ca "BadNumber" = C_BadNumber
  q_BadNumber : PySem.W.excIn G.K C_BadNumber [.type "ValueError", .type "Exception", .type "BaseException", .type "object"] "ValueError.__new__" = true
  k_BadNumber : PySem.W.keepIn G.K (.ref C_BadNumber) = true
  b_BadNumber : PySem.W.subIn G.K (.ref C_BadNumber) (.type "BaseException") = some true
  t_BadNumber : PySem.W.typeIn G.K (.ref C_BadNumber) = some (.type "type")
  e_BadNumber : ∀ cn b, is_BadNumber cn = some b → PySem.W.exmOne G.K (.ref (G.ca cn)) (.ref C_BadNumber) = some b
  s_BadNumber : ∀ cn b, is_BadNumber cn = some b → PySem.W.kitOne G.K (.ref (G.ca cn)) (.ref C_BadNumber) = some b
  C_FormError : Addr
  g_FormError : mg "FormError" = some (.ref C_FormError)
  a_FormError : G.ca "FormError" = C_FormError
  e_FormError : ∀ cn b, is_FormError cn = some b → PySem.W.exmOne G.K (.ref (G.ca cn)) (.ref C_FormError) = some b
  s_FormError : ∀ cn b, is_FormError cn = some b → PySem.W.kitOne G.K (.ref (G.ca cn)) (.ref C_FormError) = some b
  C_TooGreat : Addr
  g_TooGreat : mg "TooGreat" = some (.ref C_TooGreat)
  a_TooGreat : G.ca "TooGreat" = C_TooGreat
  q_TooGreat : PySem.W.excIn G.K C_TooGreat [.type "ValueError", .type "Exception", .type "BaseException", .type "object"] "ValueError.__new__" = true
  k_TooGreat : PySem.W.keepIn G.K (.ref C_TooGreat) = true
  b_TooGreat : PySem.W.subIn G.K (.ref C_TooGreat) (.type "BaseException") = some true
  t_TooGreat : PySem.W.typeIn G.K (.ref C_TooGreat) = some (.type "type")
  e_TooGreat : ∀ cn b, is_TooGreat cn = some b → PySem.W.exmOne G.K (.ref (G.ca cn)) (.ref C_TooGreat) = some b
  s_TooGreat : ∀ cn b, is_TooGreat cn = some b → PySem.W.kitOne G.K (.ref (G.ca cn)) (.ref C_TooGreat) = some b
  xc : ∀ cn, cn ∈ exNames → ExcC G.K (G.ca cn)
section
variable {P : Program} {w : World} {G : Gd} {mg : Str → Option Value} {base : Heap} (T : Txt G mg)
theorem b_power : Binds G.K T.d_power ["base", "many"] [] := T.F_power.binds fun _ _ _ _ _ _ us hl => match us, hl with | [_, _], _ => rfl
theorem b_primes_in : Binds G.K T.d_primes_in ["number"] [] := T.F_primes_in.binds fun _ _ _ _ _ _ us hl => match us, hl with | [_], _ => rfl
theorem b_parted : Binds G.K T.d_parted ["number", "p"] [] := T.F_parted.binds fun _ _ _ _ _ _ us hl => match us, hl with | [_, _], _ => rfl
theorem b_often_in : Binds G.K T.d_often_in ["number", "p"] [] := T.F_often_in.binds fun _ _ _ _ _ _ us hl => match us, hl with | [_, _], _ => rfl
theorem b_is_whole : Binds G.K T.d_is_whole ["value"] [] := T.F_is_whole.binds fun _ _ _ _ _ _ us hl => match us, hl with | [_], _ => rfl
theorem b_fraction : Binds G.K T.d_fraction ["n", "d"] [] := T.F_fraction.binds fun _ _ _ _ _ _ us hl => match us, hl with | [_, _], _ => rfl
theorem b_sum_of : Binds G.K T.d_sum_of ["one", "other"] [] := T.F_sum_of.binds fun _ _ _ _ _ _ us hl => match us, hl with | [_, _], _ => rfl
theorem b_times_of : Binds G.K T.d_times_of ["one", "other"] [] := T.F_times_of.binds fun _ _ _ _ _ _ us hl => match us, hl with | [_, _], _ => rfl
theorem b_told_whole : Binds G.K T.d_told_whole ["number", "least"] [] := T.F_told_whole.binds fun _ _ _ _ _ _ us hl => match us, hl with | [_, _], _ => rfl
theorem b_discriminant_of : Binds G.K T.d_discriminant_of ["number"] [] := T.F_discriminant_of.binds fun _ _ _ _ _ _ us hl => match us, hl with | [_], _ => rfl
theorem b_discriminant : Binds G.K T.d_discriminant ["number"] [] := T.F_discriminant.binds fun _ _ _ _ _ _ us hl => match us, hl with | [_], _ => rfl
theorem b_squares_row : Binds G.K T.d_squares_row ["p"] [] := T.F_squares_row.binds fun _ _ _ _ _ _ us hl => match us, hl with | [_], _ => rfl
theorem b_periods_of : Binds G.K T.d_periods_of ["d"] [] := T.F_periods_of.binds fun _ _ _ _ _ _ us hl => match us, hl with | [_], _ => rfl
theorem b_power_sums : Binds G.K T.d_power_sums ["d", "most"] [] := T.F_power_sums.binds fun _ _ _ _ _ _ us hl => match us, hl with | [_, _], _ => rfl
theorem b_bernoulli_of : Binds G.K T.d_bernoulli_of ["k", "d"] [] := T.F_bernoulli_of.binds fun _ _ _ _ _ _ us hl => match us, hl with | [_, _], _ => rfl
theorem b_bernoulli_number : Binds G.K T.d_bernoulli_number ["k", "d"] [] := T.F_bernoulli_number.binds fun _ _ _ _ _ _ us hl => match us, hl with | [_, _], _ => rfl
theorem b__law_pool : Binds G.K T.d__law_pool ["script"] [] := T.F__law_pool.binds fun _ _ _ _ _ _ us hl => match us, hl with | [_], _ => rfl
theorem b__law_take : Binds G.K T.d__law_take ["pool", "many"] [] := T.F__law_take.binds fun _ _ _ _ _ _ us hl => match us, hl with | [_, _], _ => rfl
theorem b__law_pick : Binds G.K T.d__law_pick ["pool", "rows"] [] := T.F__law_pick.binds fun _ _ _ _ _ _ us hl => match us, hl with | [_, _], _ => rfl
theorem b__law_is_integer : Binds G.K T.d__law_is_integer ["actual"] [] := T.F__law_is_integer.binds fun _ _ _ _ _ _ us hl => match us, hl with | [_], _ => rfl
theorem b__law_same : Binds G.K T.d__law_same ["actual", "due"] [] := T.F__law_same.binds fun _ _ _ _ _ _ us hl => match us, hl with | [_, _], _ => rfl
theorem b__law_power : Binds G.K T.d__law_power ["base", "many"] [] := T.F__law_power.binds fun _ _ _ _ _ _ us hl => match us, hl with | [_, _], _ => rfl
theorem b__law_common : Binds G.K T.d__law_common ["one", "other"] [] := T.F__law_common.binds fun _ _ _ _ _ _ us hl => match us, hl with | [_, _], _ => rfl
theorem b__law_root : Binds G.K T.d__law_root ["number"] [] := T.F__law_root.binds fun _ _ _ _ _ _ us hl => match us, hl with | [_], _ => rfl
theorem b__law_fraction_of : Binds G.K T.d__law_fraction_of ["n", "d"] [] := T.F__law_fraction_of.binds fun _ _ _ _ _ _ us hl => match us, hl with | [_, _], _ => rfl
theorem b__law_plus : Binds G.K T.d__law_plus ["one", "other"] [] := T.F__law_plus.binds fun _ _ _ _ _ _ us hl => match us, hl with | [_, _], _ => rfl
theorem b__law_times : Binds G.K T.d__law_times ["one", "other"] [] := T.F__law_times.binds fun _ _ _ _ _ _ us hl => match us, hl with | [_, _], _ => rfl
theorem b__law_often : Binds G.K T.d__law_often ["number", "p"] [] := T.F__law_often.binds fun _ _ _ _ _ _ us hl => match us, hl with | [_, _], _ => rfl
theorem b__law_power_modulo : Binds G.K T.d__law_power_modulo ["base", "many", "q"] [] := T.F__law_power_modulo.binds fun _ _ _ _ _ _ us hl => match us, hl with | [_, _, _], _ => rfl
theorem b__law_sign : Binds G.K T.d__law_sign ["number", "p"] [] := T.F__law_sign.binds fun _ _ _ _ _ _ us hl => match us, hl with | [_, _], _ => rfl
theorem b__law_primes_in : Binds G.K T.d__law_primes_in ["number"] [] := T.F__law_primes_in.binds fun _ _ _ _ _ _ us hl => match us, hl with | [_], _ => rfl
theorem b__law_discriminant : Binds G.K T.d__law_discriminant ["number"] [] := T.F__law_discriminant.binds fun _ _ _ _ _ _ us hl => match us, hl with | [_], _ => rfl
theorem b__law_character : Binds G.K T.d__law_character ["d", "a"] [] := T.F__law_character.binds fun _ _ _ _ _ _ us hl => match us, hl with | [_, _], _ => rfl
theorem b__law_polynomial : Binds G.K T.d__law_polynomial ["k"] [] := T.F__law_polynomial.binds fun _ _ _ _ _ _ us hl => match us, hl with | [_], _ => rfl
theorem b__law_bernoulli : Binds G.K T.d__law_bernoulli ["k", "d"] [] := T.F__law_bernoulli.binds fun _ _ _ _ _ _ us hl => match us, hl with | [_, _], _ => rfl
theorem b__law_class_number : Binds G.K T.d__law_class_number ["d"] [] := T.F__law_class_number.binds fun _ _ _ _ _ _ us hl => match us, hl with | [_], _ => rfl
theorem b__law_fault : Binds G.K T.d__law_fault ["word", "one", "two"] [] := T.F__law_fault.binds fun _ _ _ _ _ _ us hl => match us, hl with | [_, _, _], _ => rfl
theorem b__law_refuses : Binds G.K T.d__law_refuses ["pool"] [] := T.F__law_refuses.binds fun _ _ _ _ _ _ us hl => match us, hl with | [_], _ => rfl
theorem b__law_known : Binds G.K T.d__law_known ["pool"] [] := T.F__law_known.binds fun _ _ _ _ _ _ us hl => match us, hl with | [_], _ => rfl
theorem b_law : Binds G.K T.d_law ["script"] [] := T.F_law.binds fun _ _ _ _ _ _ us hl => match us, hl with | [_], _ => rfl
theorem ok_power : FnOk P w G.K mg base (L2.CX P w) 1 T.f_power T.d_power ["base", "many"] (spD G 2 Sh.c_power) := fn_K (m := Sh.m_power) T.F_power sc_power fun cdv A outer s H E hr => (dss_cons (ds_set (i := 2) sc_power.nd de_int) (dss_cons (ds_for (di_range1 T.n_range (da_cons (de_var 1) da_nil)) (dg_name sc_power.nd) (dss_one (ds_set (i := 2) sc_power.nd (de_mul false (de_var 2) (de_var 0))))) (dss_one (ds_ret (de_var 2)))))
theorem ok_primes_in : FnOk P w G.K mg base (L2.CX P w) 1 T.f_primes_in T.d_primes_in ["number"] (spD G 1 c_primes_in) := fn_T (m := m_primes_in) T.F_primes_in sc_primes_in fun cdv A outer s H E hr => (dss_cons (ds_set (i := 1) sc_primes_in.nd (de_callB false real_abs call_abs T.n_abs (by rfl) (da_cons (de_var 0) da_nil))) (dss_cons (ds_set (i := 2) sc_primes_in.nd (de_lst true da_nil)) (dss_cons (ds_set (i := 3) sc_primes_in.nd de_int) (dss_cons (ds_while (dt_c c_le (de_mul false (de_var 3) (de_var 3)) (de_var 1)) (dss_cons (ds_if (dt_c c_eq (de_mod (de_var 1) (de_var 3)) de_int) (dss_cons (ds_expr (de_mt real_append mt_append PySem.F.slot_list_append PySem.F.type_list_append (de_var 2) (da_cons (de_var 3) da_nil))) (dss_one (ds_while (dt_c c_eq (de_mod (de_var 1) (de_var 3)) de_int) (dss_one (ds_set (i := 1) sc_primes_in.nd (de_div (de_var 1) (de_var 3))))))) dss_nil) (dss_one (ds_set (i := 3) sc_primes_in.nd (de_add false (de_add false (de_var 3) de_int) (de_mod (de_var 3) de_int)))))) (dss_cons (ds_if (dt_c c_gt (de_var 1) de_int) (dss_one (ds_expr (de_mt real_append mt_append PySem.F.slot_list_append PySem.F.type_list_append (de_var 2) (da_cons (de_var 1) da_nil)))) dss_nil) (dss_one (ds_ret (de_var 2))))))))
theorem ok_parted : FnOk P w G.K mg base (L2.CX P w) 1 T.f_parted T.d_parted ["number", "p"] (spD G 2 c_parted) := fn_K (m := m_parted) T.F_parted sc_parted fun cdv A outer s H E hr => (dss_cons (ds_set (i := 2) sc_parted.nd de_int) (dss_cons (ds_while (dt_c c_eq (de_mod (de_var 0) (de_var 1)) de_int) (dss_cons (ds_set (i := 0) sc_parted.nd (de_div (de_var 0) (de_var 1))) (dss_one (ds_set (i := 2) sc_parted.nd (de_add false (de_var 2) de_int))))) (dss_one (ds_ret (de_tup (da_cons (de_var 2) (da_cons (de_var 0) da_nil)))))))
theorem ok_often_in : FnOk P w G.K mg base (L2.CX P w) 2 T.f_often_in T.d_often_in ["number", "p"] (spD G 2 c_often_in) := fn_K (m := m_often_in) T.F_often_in sc_often_in fun cdv A outer s H E hr => (dss_one (ds_ret (de_ix (de_call (ok_parted T) (hr.mono (by decide)) T.g_parted T.F_parted.kp (b_parted T) (da_cons (de_var 0) (da_cons (de_var 1) da_nil))) de_int)))
theorem ok_is_whole : FnOk P w G.K mg base (L2.CX P w) 1 T.f_is_whole T.d_is_whole ["value"] (spD G 1 Sh.c_is_whole) := fn_K (m := Sh.m_is_whole) T.F_is_whole sc_is_whole fun cdv A outer s H E hr => (dss_one (ds_ret (de_and (de_callB false real_isi (call_isi.or call_isiT) T.n_isinstance (by rfl) (da_cons (de_var 0) (da_cons (de_ty T.n_int (by rfl)) da_nil))) (de_one (de_not (de_callB false real_isi (call_isi.or call_isiT) T.n_isinstance (by rfl) (da_cons (de_var 0) (da_cons (de_ty T.n_bool (by rfl)) da_nil))))))))
theorem ok_fraction : FnOk P w G.K mg base (L2.CX P w) 1 T.f_fraction T.d_fraction ["n", "d"] (spD G 2 c_fraction) := fn_K (m := m_fraction) T.F_fraction sc_fraction fun cdv A outer s H E hr => (dss_cons (ds_set (i := 2) sc_fraction.nd (de_callFun false real_gcd cr_gcd T.i_gcd (da_cons (de_var 0) (da_cons (de_var 1) da_nil)))) (dss_cons (ds_if (dt_c c_lt (de_var 1) de_int) (dss_one (ds_set (i := 2) sc_fraction.nd (de_neg (de_var 2)))) dss_nil) (dss_one (ds_ret (de_tup (da_cons (de_div (de_var 0) (de_var 2)) (da_cons (de_div (de_var 1) (de_var 2)) da_nil)))))))
theorem ok_sum_of : FnOk P w G.K mg base (L2.CX P w) 2 T.f_sum_of T.d_sum_of ["one", "other"] (spD G 2 c_sum_of) := fn_K (m := m_sum_of) T.F_sum_of sc_sum_of fun cdv A outer s H E hr => (dss_one (ds_ret (de_call (ok_fraction T) (hr.mono (by decide)) T.g_fraction T.F_fraction.kp (b_fraction T) (da_cons (de_add false (de_mul false (de_ix (de_var 0) de_int) (de_ix (de_var 1) de_int)) (de_mul false (de_ix (de_var 1) de_int) (de_ix (de_var 0) de_int))) (da_cons (de_mul false (de_ix (de_var 0) de_int) (de_ix (de_var 1) de_int)) da_nil)))))
theorem ok_times_of : FnOk P w G.K mg base (L2.CX P w) 2 T.f_times_of T.d_times_of ["one", "other"] (spD G 2 c_times_of) := fn_K (m := m_times_of) T.F_times_of sc_times_of fun cdv A outer s H E hr => (dss_one (ds_ret (de_call (ok_fraction T) (hr.mono (by decide)) T.g_fraction T.F_fraction.kp (b_fraction T) (da_cons (de_mul false (de_ix (de_var 0) de_int) (de_ix (de_var 1) de_int)) (da_cons (de_mul false (de_ix (de_var 0) de_int) (de_ix (de_var 1) de_int)) da_nil)))))
theorem ok_told_whole : FnOk P w G.K mg base (L2.CX P w) 2 T.f_told_whole T.d_told_whole ["number", "least"] (spD G 2 c_told_whole) := fn_K (m := m_told_whole) T.F_told_whole sc_told_whole fun cdv A outer s H E hr => (dss_cons (ds_if (dt_w (dw_or (dt_not (dt_tru (de_call (ok_is_whole T) (hr.mono (by decide)) T.g_is_whole T.F_is_whole.kp (b_is_whole T) (da_cons (de_var 0) da_nil)))) (dw_or (dt_c c_ge (de_callB false real_abs call_abs T.n_abs (by rfl) (da_cons (de_var 0) da_nil)) (de_glob (v := .int (1000000000000000000000000000000000000000000000000000000000000)) T.v_MOST_WHOLE ⟨_, rfl⟩ (fun _ => rfl))) (dw_or1 (dt_if (dt_c c_is (de_var 1) de_non) (dt_c c_eq (de_var 0) de_int) (dt_c c_lt (de_var 0) (de_var 1))))))) (dss_one (ds_raise (c := "BadNumber") PySem.F.excBase_ValueError T.q_BadNumber T.g_BadNumber T.k_BadNumber (raises_own T.b_BadNumber T.t_BadNumber) T.a_BadNumber)) dss_nil) (dss_one (ds_ret (de_var 0))))
theorem ok_discriminant_of : FnOk P w G.K mg base (L2.CX P w) 3 T.f_discriminant_of T.d_discriminant_of ["number"] (spD G 1 c_discriminant_of) := fn_K (m := m_discriminant_of) T.F_discriminant_of sc_discriminant_of fun cdv A outer s H E hr => (dss_cons (ds_set (i := 1) sc_discriminant_of.nd (de_if (dt_c c_gt (de_var 0) de_int) de_int (de_neg de_int))) (dss_cons (ds_for (di_seq (de_call (ok_primes_in T) (hr.mono (by decide)) T.g_primes_in T.F_primes_in.kp (b_primes_in T) (da_cons (de_var 0) da_nil))) (dg_name sc_discriminant_of.nd) (dss_one (ds_if (dt_c c_eq (de_mod (de_call (ok_often_in T) (hr.mono (by decide)) T.g_often_in T.F_often_in.kp (b_often_in T) (da_cons (de_var 0) (da_cons (de_var 2) da_nil))) de_int) de_int) (dss_one (ds_set (i := 1) sc_discriminant_of.nd (de_mul false (de_var 1) (de_var 2)))) dss_nil))) (dss_one (ds_ret (de_if (dt_c c_eq (de_mod (de_var 1) de_int) de_int) (de_var 1) (de_mul false de_int (de_var 1)))))))
theorem ok_discriminant : FnOk P w G.K mg base (L2.CX P w) 4 T.f_discriminant T.d_discriminant ["number"] (spD G 1 c_discriminant) := fn_K (m := m_discriminant) T.F_discriminant sc_discriminant fun cdv A outer s H E hr => (dss_cons (ds_expr (de_call (ok_told_whole T) (hr.mono (by decide)) T.g_told_whole T.F_told_whole.kp (b_told_whole T) (da_cons (de_var 0) (da_cons de_non da_nil)))) (dss_cons (ds_if (dt_c c_gt (de_callB false real_abs call_abs T.n_abs (by rfl) (da_cons (de_var 0) da_nil)) (de_glob (v := .int (1000000000)) T.v_MOST_GIVEN ⟨_, rfl⟩ (fun _ => rfl))) (dss_one (ds_raise (c := "TooGreat") PySem.F.excBase_ValueError T.q_TooGreat T.g_TooGreat T.k_TooGreat (raises_own T.b_TooGreat T.t_TooGreat) T.a_TooGreat)) dss_nil) (dss_one (ds_ret (de_call (ok_discriminant_of T) (hr.mono (by decide)) T.g_discriminant_of T.F_discriminant_of.kp (b_discriminant_of T) (da_cons (de_var 0) da_nil))))))
theorem ok_squares_row : FnOk P w G.K mg base (L2.CX P w) 1 T.f_squares_row T.d_squares_row ["p"] (spD G 1 c_squares_row) := fn_T (m := m_squares_row) T.F_squares_row sc_squares_row fun cdv A outer s H E hr => (dss_cons (ds_set (i := 1) sc_squares_row.nd (de_mul true (de_lst false (da_cons (de_neg de_int) da_nil)) (de_var 0))) (dss_cons (ds_for (di_range2 T.n_range (da_cons de_int (da_cons (de_var 0) da_nil))) (dg_name sc_squares_row.nd) (dss_one (ds_asg de_int (dg_sub (de_var 1) (de_mod (de_mul false (de_var 2) (de_var 2)) (de_var 0)))))) (dss_cons (ds_asg de_int (dg_sub (de_var 1) de_int)) (dss_one (ds_ret (de_var 1))))))
theorem ok_periods_of : FnOk P w G.K mg base (L2.CX P w) 2 T.f_periods_of T.d_periods_of ["d"] (spD G 1 c_periods_of) := fn_K (m := m_periods_of) T.F_periods_of sc_periods_of fun cdv A outer s H E hr => (dss_cons (ds_setLc (j := 1) false (ow := [("p", 3)]) sc_periods_of.nd (di_seq (de_call (ok_primes_in T) (hr.mono (by decide)) T.g_primes_in T.F_primes_in.kp (b_primes_in T) (da_cons (de_var 0) da_nil))) (blkOk_by (N := N_periods_of) (sc := defScope s_periods_of) (by decide +kernel)) (gw_name 3) (hm_name 3) (fun _ _ _ _ _ => pg_name (i := 3) sc_periods_of.nd rfl (Or.inl rfl)) (fun _ _ _ _ _ => dts_one (dt_c c_ne (de_var 3) de_int)) (fun _ _ _ _ _ => (de_var 3))) (dss_cons (ds_set (i := 2) sc_periods_of.nd (de_var 0)) (dss_cons (ds_for (di_seq (de_var 1)) (dg_name sc_periods_of.nd) (dss_one (ds_set (i := 2) sc_periods_of.nd (de_div (de_var 2) (de_if (dt_c c_eq (de_mod (de_var 3) de_int) de_int) (de_var 3) (de_neg (de_var 3))))))) (dss_one (ds_ret (de_add false (de_lst false (da_cons (de_kd (pe_clsN T.v_EIGHTHS.choose_spec.1) T.v_EIGHTHS.choose_spec.2 (de_var 2)) da_nil)) (de_lc false (ow := [("p", 3)]) sc_periods_of.nd (di_seq (de_var 1)) (blkOk_by (N := N_periods_of) (sc := defScope s_periods_of) (by decide +kernel)) (gw_name 3) (hm_name 3) (fun _ _ _ _ _ => pg_name (i := 3) sc_periods_of.nd rfl (Or.inl rfl)) (fun _ _ _ _ _ => dts_nil) (fun _ _ _ _ _ => (de_call (ok_squares_row T) (hr.mono (by decide)) T.g_squares_row T.F_squares_row.kp (b_squares_row T) (da_cons (de_var 3) da_nil))))))))))
theorem ok_power_sums : FnOk P w G.K mg base (L2.CX P w) 3 T.f_power_sums T.d_power_sums ["d", "most"] (spD G 2 c_power_sums) := fn_T (m := m_power_sums) T.F_power_sums sc_power_sums fun cdv A outer s H E hr => (dss_cons (ds_set (i := 2) sc_power_sums.nd (de_call (ok_periods_of T) (hr.mono (by decide)) T.g_periods_of T.F_periods_of.kp (b_periods_of T) (da_cons (de_var 0) da_nil))) (dss_cons (ds_set (i := 3) sc_power_sums.nd (de_mul true (de_lst false (da_cons de_int da_nil)) (de_add false (de_var 1) de_int))) (dss_cons (ds_for (di_range2 T.n_range (da_cons de_int (da_cons (de_add false (de_callB false real_abs call_abs T.n_abs (by rfl) (da_cons (de_var 0) da_nil)) de_int) da_nil))) (dg_name sc_power_sums.nd) (dss_cons (ds_set (i := 5) sc_power_sums.nd de_int) (dss_cons (ds_for (di_seq (de_var 2)) (dg_name sc_power_sums.nd) (dss_one (ds_set (i := 5) sc_power_sums.nd (de_mul false (de_var 5) (de_ix (de_var 6) (de_mod (de_var 4) (de_callB false real_len call_len T.n_len (by rfl) (da_cons (de_var 6) da_nil)))))))) (dss_one (ds_if (dt_tru (de_var 5)) (dss_cons (ds_set (i := 7) sc_power_sums.nd (de_var 5)) (dss_one (ds_for (di_range1 T.n_range (da_cons (de_add false (de_var 1) de_int) da_nil)) (dg_name sc_power_sums.nd) (dss_cons (ds_asg (de_add false (de_ix (de_var 3) (de_var 8)) (de_var 7)) (dg_sub (de_var 3) (de_var 8))) (dss_one (ds_set (i := 7) sc_power_sums.nd (de_mul false (de_var 7) (de_var 4)))))))) dss_nil))))) (dss_one (ds_ret (de_var 3))))))
theorem ok_bernoulli_of : FnOk P w G.K mg base (L2.CX P w) 4 T.f_bernoulli_of T.d_bernoulli_of ["k", "d"] (spD G 2 c_bernoulli_of) := fn_K (m := m_bernoulli_of) T.F_bernoulli_of sc_bernoulli_of fun cdv A outer s H E hr => (dss_cons (ds_set (i := 2) sc_bernoulli_of.nd (de_callB false real_abs call_abs T.n_abs (by rfl) (da_cons (de_var 1) da_nil))) (dss_cons (ds_set (i := 3) sc_bernoulli_of.nd (de_tup (da_cons de_int (da_cons de_int da_nil)))) (dss_cons (ds_for (di_enum T.n_enumerate (da_cons (de_call (ok_power_sums T) (hr.mono (by decide)) T.g_power_sums T.F_power_sums.kp (b_power_sums T) (da_cons (de_var 1) (da_cons (de_var 0) da_nil))) da_nil)) (dg_tup (dgs_cons (dg_name sc_bernoulli_of.nd) (dgs_cons (dg_name sc_bernoulli_of.nd) dgs_nil))) (dss_cons (ds_set (i := 6) sc_bernoulli_of.nd (de_call (ok_fraction T) (hr.mono (by decide)) T.g_fraction T.F_fraction.kp (b_fraction T) (da_cons (de_mul false (de_mul false (de_callFun false real_comb cr_comb T.i_comb (da_cons (de_var 0) (da_cons (de_var 4) da_nil))) (de_var 5)) (de_call (ok_power T) (hr.mono (by decide)) T.g_power T.F_power.kp (b_power T) (da_cons (de_var 2) (da_cons (de_sub (de_var 0) de_int) da_nil)))) (da_cons (de_call (ok_power T) (hr.mono (by decide)) T.g_power T.F_power.kp (b_power T) (da_cons (de_var 2) (da_cons (de_var 4) da_nil))) da_nil)))) (dss_one (ds_set (i := 3) sc_bernoulli_of.nd (de_call (ok_sum_of T) (hr.mono (by decide)) T.g_sum_of T.F_sum_of.kp (b_sum_of T) (da_cons (de_var 3) (da_cons (de_call (ok_times_of T) (hr.mono (by decide)) T.g_times_of T.F_times_of.kp (b_times_of T) (da_cons (de_var 6) (da_cons (de_ix (de_glob (v := .ref _) T.v_NUMBERS.choose_spec.1 rfl T.v_NUMBERS.choose_spec.2) (de_sub (de_var 0) (de_var 4))) da_nil))) da_nil))))))) (dss_one (ds_ret (de_var 3))))))
theorem ok_bernoulli_number : FnOk P w G.K mg base (L2.CX P w) 5 T.f_bernoulli_number T.d_bernoulli_number ["k", "d"] (spD G 2 c_bernoulli_number) := fn_K (m := m_bernoulli_number) T.F_bernoulli_number sc_bernoulli_number fun cdv A outer s H E hr => (dss_cons (ds_if (dt_w (dw_or (dt_not (dt_tru (de_call (ok_is_whole T) (hr.mono (by decide)) T.g_is_whole T.F_is_whole.kp (b_is_whole T) (da_cons (de_var 0) da_nil)))) (dw_or1 (dt_not (dt_c2 c_le c_le de_int (de_var 0) de_int))))) (dss_one (ds_raise (c := "BadNumber") PySem.F.excBase_ValueError T.q_BadNumber T.g_BadNumber T.k_BadNumber (raises_own T.b_BadNumber T.t_BadNumber) T.a_BadNumber)) dss_nil) (dss_cons (ds_expr (de_call (ok_told_whole T) (hr.mono (by decide)) T.g_told_whole T.F_told_whole.kp (b_told_whole T) (da_cons (de_var 1) (da_cons de_non da_nil)))) (dss_cons (ds_if (dt_c c_gt (de_callB false real_abs call_abs T.n_abs (by rfl) (da_cons (de_var 1) da_nil)) (de_glob (v := .int (400000)) T.v_MOST_PERIOD ⟨_, rfl⟩ (fun _ => rfl))) (dss_one (ds_raise (c := "TooGreat") PySem.F.excBase_ValueError T.q_TooGreat T.g_TooGreat T.k_TooGreat (raises_own T.b_TooGreat T.t_TooGreat) T.a_TooGreat)) dss_nil) (dss_cons (ds_if (dt_c c_ne (de_call (ok_discriminant_of T) (hr.mono (by decide)) T.g_discriminant_of T.F_discriminant_of.kp (b_discriminant_of T) (da_cons (de_var 1) da_nil)) (de_var 1)) (dss_one (ds_raise (c := "BadNumber") PySem.F.excBase_ValueError T.q_BadNumber T.g_BadNumber T.k_BadNumber (raises_own T.b_BadNumber T.t_BadNumber) T.a_BadNumber)) dss_nil) (dss_one (ds_ret (de_call (ok_bernoulli_of T) (hr.mono (by decide)) T.g_bernoulli_of T.F_bernoulli_of.kp (b_bernoulli_of T) (da_cons (de_var 0) (da_cons (de_var 1) da_nil)))))))))
theorem ok__law_pool : FnOk P w G.K mg base (L2.CX P w) 1 T.f__law_pool T.d__law_pool ["script"] (spD G 1 Sh.c__law_pool) := fn_K (m := Sh.m__law_pool) T.F__law_pool sc__law_pool fun cdv A outer s H E hr => (dss_one (ds_ret (de_lst true (da_cons (de_lc false (ow := [("cell", 1)]) sc__law_pool.nd (di_seq (de_var 0)) (blkOk_by (N := Sh.N__law_pool) (sc := defScope s__law_pool) (by decide +kernel)) (gw_name 1) (hm_name 1) (fun _ _ _ _ _ => pg_name (i := 1) sc__law_pool.nd rfl (Or.inl rfl)) (fun _ _ _ _ _ => dts_nil) (fun _ _ _ _ _ => (de_if (dt_c c_ge (de_var 1) de_int) (de_mul false de_int (de_var 1)) (de_sub (de_mul false (de_neg de_int) (de_var 1)) de_int)))) (da_cons de_int (da_cons de_int (da_cons de_int da_nil)))))))
theorem ok__law_take : ∀ d : Nat, FnOk P w G.K mg base (L2.CX P w) (d + 0) T.f__law_take T.d__law_take ["pool", "many"] (spD G 2 (Sh.c__law_take d))
  | 0 => ⟨fun vs H Q E h => by obtain ⟨ds, W, _, _, _, r, hl, _⟩ := h; rw [← r.length]; exact hl, fun A outer s H args us vs Q E hr he hb hv h => by obtain ⟨ds, W, _, _, _, r, hl, q⟩ := h; exact q.elim⟩
  | d + 1 => by
    have ih := ok__law_take d
    have e : d + 1 + 0 = (d + 0) + 1 := by omega
    rw [e]
    exact fn_K (m := Sh.m__law_take (Sh.c__law_take d)) T.F__law_take sc__law_take fun cdv A outer s H E hr => (dss_cons (ds_if (dt_c c_gt (de_ix (de_var 0) de_int) de_int) (dss_cons (ds_set (i := 2) sc__law_take.nd (de_mod (de_callTy false real_int call_int1 T.n_int (by rfl) (da_cons (de_ix (de_var 0) de_int) da_nil)) (de_var 1))) (dss_cons (ds_asg (de_div (de_ix (de_var 0) de_int) (de_var 1)) (dg_sub (de_var 0) de_int)) (dss_one (ds_ret (de_var 2))))) dss_nil) (dss_cons (ds_set (i := 3) sc__law_take.nd de_int) (dss_cons (ds_if (dt_c c_lt (de_ix (de_var 0) de_int) (de_callB false real_len call_len T.n_len (by rfl) (da_cons (de_ix (de_var 0) de_int) da_nil))) (dss_one (ds_set (i := 3) sc__law_take.nd (de_ix (de_ix (de_var 0) de_int) (de_ix (de_var 0) de_int)))) dss_nil) (dss_cons (ds_asg (de_add false (de_ix (de_var 0) de_int) de_int) (dg_sub (de_var 0) de_int)) (dss_cons (ds_if (dt_c c_ge (de_var 3) (de_pow de_int de_int)) (dss_cons (ds_asg (de_div (de_var 3) de_int) (dg_sub (de_var 0) de_int)) (dss_one (ds_ret (de_call (ih) (hr.mono (by omega)) T.g__law_take T.F__law_take.kp (b__law_take T) (da_cons (de_var 0) (da_cons (de_var 1) da_nil)))))) dss_nil) (dss_cons (ds_asg (de_mod (de_callTy false real_int call_int1 T.n_int (by rfl) (da_cons (de_add false (de_add false (de_mul false (de_ix (de_var 0) de_int) de_int) (de_mul false (de_var 3) de_int)) (de_mul false (de_ix (de_var 0) de_int) de_int)) da_nil)) de_int) (dg_sub (de_var 0) de_int)) (dss_cons (ds_set (i := 4) sc__law_take.nd (de_mod (de_callTy false real_int call_int1 T.n_int (by rfl) (da_cons (de_add false (de_add false (de_mul false (de_ix (de_var 0) de_int) (de_ix (de_var 0) de_int)) (de_mul false (de_ix (de_var 0) de_int) de_int)) de_int) da_nil)) de_int)) (dss_one (ds_ret (de_mod (de_callTy false real_int call_int1 T.n_int (by rfl) (da_cons (de_div (de_var 4) de_int) da_nil)) (de_var 1)))))))))))
theorem ok__law_pick : FnOk P w G.K mg base (L2.CX P w) 3 T.f__law_pick T.d__law_pick ["pool", "rows"] (spD G 2 Sh.c__law_pick) := fn_K (m := Sh.m__law_pick) T.F__law_pick sc__law_pick fun cdv A outer s H E hr => (dss_one (ds_ret (de_ix (de_var 1) (de_call (ok__law_take T 2) (hr.mono (by decide)) T.g__law_take T.F__law_take.kp (b__law_take T) (da_cons (de_var 0) (da_cons (de_callB false real_len call_len T.n_len (by rfl) (da_cons (de_var 1) da_nil)) da_nil))))))
theorem ok__law_is_integer : FnOk P w G.K mg base (L2.CX P w) 1 T.f__law_is_integer T.d__law_is_integer ["actual"] (spD G 1 Sh.c__law_is_integer) := fn_K (m := Sh.m__law_is_integer) T.F__law_is_integer sc__law_is_integer fun cdv A outer s H E hr => (dss_one (ds_ret (de_and (de_callB false real_isi (call_isi.or call_isiT) T.n_isinstance (by rfl) (da_cons (de_var 0) (da_cons (de_ty T.n_int (by rfl)) da_nil))) (de_one (de_not (de_callB false real_isi (call_isi.or call_isiT) T.n_isinstance (by rfl) (da_cons (de_var 0) (da_cons (de_ty T.n_bool (by rfl)) da_nil))))))))
theorem ok__law_same : ∀ d : Nat, FnOk P w G.K mg base (L2.CX P w) (d + 1) T.f__law_same T.d__law_same ["actual", "due"] (spD G 2 (Sh.c__law_same d))
  | 0 => ⟨fun vs H Q E h => by obtain ⟨ds, W, _, _, _, r, hl, _⟩ := h; rw [← r.length]; exact hl, fun A outer s H args us vs Q E hr he hb hv h => by obtain ⟨ds, W, _, _, _, r, hl, q⟩ := h; exact q.elim⟩
  | d + 1 => by
    have ih := ok__law_same d
    have e : d + 1 + 1 = (d + 1) + 1 := by omega
    rw [e]
    exact fn_K (m := Sh.m__law_same (Sh.c__law_same d)) T.F__law_same sc__law_same fun cdv A outer s H E hr => (dss_cons (ds_if (dt_tru (de_callB false real_isi (call_isi.or call_isiT) T.n_isinstance (by rfl) (da_cons (de_var 1) (da_cons (de_ty T.n_tuple (by rfl)) da_nil)))) (dss_cons (ds_if (dt_w (dw_or (dt_not (dt_tru (de_callB false real_isi (call_isi.or call_isiT) T.n_isinstance (by rfl) (da_cons (de_var 0) (da_cons (de_ty T.n_tuple (by rfl)) da_nil))))) (dw_or1 (dt_c c_ne (de_callB false real_len call_len T.n_len (by rfl) (da_cons (de_var 0) da_nil)) (de_callB false real_len call_len T.n_len (by rfl) (da_cons (de_var 1) da_nil)))))) (dss_one (ds_ret de_bl)) dss_nil) (dss_one (ds_ret (de_callB false real_all (cr_all rfl) T.n_all (by rfl) (da_cons (de_lc false (ow := [("k", 2)]) sc__law_same.nd (di_range1 T.n_range (da_cons (de_callB false real_len call_len T.n_len (by rfl) (da_cons (de_var 1) da_nil)) da_nil)) (blkOk_by (N := Sh.N__law_same) (sc := defScope s__law_same) (by decide +kernel)) (gw_name 2) (hm_name 2) (fun _ _ _ _ _ => pg_name (i := 2) sc__law_same.nd rfl (Or.inl rfl)) (fun _ _ _ _ _ => dts_nil) (fun _ _ _ _ _ => (de_call (ih) (hr.mono (by omega)) T.g__law_same T.F__law_same.kp (b__law_same T) (da_cons (de_ix (de_var 0) (de_var 2)) (da_cons (de_ix (de_var 1) (de_var 2)) da_nil))))) da_nil))))) dss_nil) (dss_cons (ds_if (dt_tru (de_callB false real_isi (call_isi.or call_isiT) T.n_isinstance (by rfl) (da_cons (de_var 1) (da_cons (de_ty T.n_list (by rfl)) da_nil)))) (dss_cons (ds_if (dt_w (dw_or (dt_not (dt_tru (de_callB false real_isi (call_isi.or call_isiT) T.n_isinstance (by rfl) (da_cons (de_var 0) (da_cons (de_ty T.n_list (by rfl)) da_nil))))) (dw_or1 (dt_c c_ne (de_callB false real_len call_len T.n_len (by rfl) (da_cons (de_var 0) da_nil)) (de_callB false real_len call_len T.n_len (by rfl) (da_cons (de_var 1) da_nil)))))) (dss_one (ds_ret de_bl)) dss_nil) (dss_one (ds_ret (de_callB false real_all (cr_all rfl) T.n_all (by rfl) (da_cons (de_lc false (ow := [("k", 2)]) sc__law_same.nd (di_range1 T.n_range (da_cons (de_callB false real_len call_len T.n_len (by rfl) (da_cons (de_var 1) da_nil)) da_nil)) (blkOk_by (N := Sh.N__law_same) (sc := defScope s__law_same) (by decide +kernel)) (gw_name 2) (hm_name 2) (fun _ _ _ _ _ => pg_name (i := 2) sc__law_same.nd rfl (Or.inl rfl)) (fun _ _ _ _ _ => dts_nil) (fun _ _ _ _ _ => (de_call (ih) (hr.mono (by omega)) T.g__law_same T.F__law_same.kp (b__law_same T) (da_cons (de_ix (de_var 0) (de_var 2)) (da_cons (de_ix (de_var 1) (de_var 2)) da_nil))))) da_nil))))) dss_nil) (dss_cons (ds_if (dt_c c_is (de_var 1) de_non) (dss_one (ds_ret (de_c c_is (de_var 0) de_non))) dss_nil) (dss_cons (ds_if (dt_tru (de_callB false real_isi (call_isi.or call_isiT) T.n_isinstance (by rfl) (da_cons (de_var 1) (da_cons (de_ty T.n_bool (by rfl)) da_nil)))) (dss_one (ds_ret (de_and (de_callB false real_isi (call_isi.or call_isiT) T.n_isinstance (by rfl) (da_cons (de_var 0) (da_cons (de_ty T.n_bool (by rfl)) da_nil))) (de_one (de_c c_eq (de_var 0) (de_var 1)))))) dss_nil) (dss_cons (ds_if (dt_tru (de_callB false real_isi (call_isi.or call_isiT) T.n_isinstance (by rfl) (da_cons (de_var 1) (da_cons (de_ty T.n_str (by rfl)) da_nil)))) (dss_one (ds_ret (de_and (de_callB false real_isi (call_isi.or call_isiT) T.n_isinstance (by rfl) (da_cons (de_var 0) (da_cons (de_ty T.n_str (by rfl)) da_nil))) (de_one (de_c c_eq (de_var 0) (de_var 1)))))) dss_nil) (dss_one (ds_ret (de_and (de_call (ok__law_is_integer T) (hr.mono (by omega)) T.g__law_is_integer T.F__law_is_integer.kp (b__law_is_integer T) (da_cons (de_var 0) da_nil)) (de_one (de_c c_eq (de_var 0) (de_var 1)))))))))))
theorem ok__law_power : FnOk P w G.K mg base (L2.CX P w) 1 T.f__law_power T.d__law_power ["base", "many"] (spD G 2 Sh.c__law_power) := fn_K (m := Sh.m__law_power) T.F__law_power sc__law_power fun cdv A outer s H E hr => (dss_cons (ds_set (i := 2) sc__law_power.nd de_int) (dss_cons (ds_for (di_range1 T.n_range (da_cons (de_var 1) da_nil)) (dg_name sc__law_power.nd) (dss_one (ds_set (i := 2) sc__law_power.nd (de_mul false (de_var 2) (de_var 0))))) (dss_one (ds_ret (de_var 2)))))
theorem ok__law_common : FnOk P w G.K mg base (L2.CX P w) 1 T.f__law_common T.d__law_common ["one", "other"] (spD G 2 c__law_common) := fn_K (m := m__law_common) T.F__law_common sc__law_common fun cdv A outer s H E hr => (dss_cons (ds_par (i := 0) (j := 1) sc__law_common.nd (da_cons (de_callB false real_abs call_abs T.n_abs (by rfl) (da_cons (de_var 0) da_nil)) (da_cons (de_callB false real_abs call_abs T.n_abs (by rfl) (da_cons (de_var 1) da_nil)) da_nil))) (dss_cons (ds_for (di_range1 T.n_range (da_cons de_int da_nil)) (dg_name sc__law_common.nd) (dss_cons (ds_if (dt_c c_eq (de_var 1) de_int) (dss_one ds_break) dss_nil) (dss_one (ds_par (i := 0) (j := 1) sc__law_common.nd (da_cons (de_var 1) (da_cons (de_sub (de_var 0) (de_mul false (de_var 1) (de_callTy false real_int call_int1 T.n_int (by rfl) (da_cons (de_div (de_var 0) (de_var 1)) da_nil)))) da_nil)))))) (dss_one (ds_ret (de_var 0)))))
theorem ok__law_root : FnOk P w G.K mg base (L2.CX P w) 1 T.f__law_root T.d__law_root ["number"] (spD G 1 c__law_root) := fn_K (m := m__law_root) T.F__law_root sc__law_root fun cdv A outer s H E hr => (dss_cons (ds_asg (de_tup (da_cons de_int (da_cons de_int da_nil))) (dg_tup (dgs_cons (dg_name sc__law_root.nd) (dgs_cons (dg_name sc__law_root.nd) dgs_nil)))) (dss_cons (ds_for (di_range1 T.n_range (da_cons de_int da_nil)) (dg_name sc__law_root.nd) (dss_cons (ds_if (dt_c c_gt (de_mul false (de_var 2) (de_var 2)) (de_var 0)) (dss_one ds_break) dss_nil) (dss_one (ds_set (i := 2) sc__law_root.nd (de_mul false de_int (de_var 2)))))) (dss_cons (ds_for (di_range1 T.n_range (da_cons de_int da_nil)) (dg_name sc__law_root.nd) (dss_cons (ds_if (dt_c c_lt (de_sub (de_var 2) (de_var 1)) de_int) (dss_one ds_break) dss_nil) (dss_cons (ds_set (i := 4) sc__law_root.nd (de_callTy false real_int call_int1 T.n_int (by rfl) (da_cons (de_div (de_add false (de_var 1) (de_var 2)) de_int) da_nil))) (dss_one (ds_if (dt_c c_gt (de_mul false (de_var 4) (de_var 4)) (de_var 0)) (dss_one (ds_set (i := 2) sc__law_root.nd (de_var 4))) (dss_one (ds_set (i := 1) sc__law_root.nd (de_var 4)))))))) (dss_one (ds_ret (de_var 1))))))
theorem ok__law_fraction_of : FnOk P w G.K mg base (L2.CX P w) 2 T.f__law_fraction_of T.d__law_fraction_of ["n", "d"] (spD G 2 c__law_fraction_of) := fn_K (m := m__law_fraction_of) T.F__law_fraction_of sc__law_fraction_of fun cdv A outer s H E hr => (dss_cons (ds_set (i := 2) sc__law_fraction_of.nd (de_call (ok__law_common T) (hr.mono (by decide)) T.g__law_common T.F__law_common.kp (b__law_common T) (da_cons (de_var 0) (da_cons (de_var 1) da_nil)))) (dss_cons (ds_set (i := 3) sc__law_fraction_of.nd (de_if (dt_c c_lt (de_var 1) de_int) (de_neg de_int) de_int)) (dss_one (ds_ret (de_tup (da_cons (de_mul false (de_var 3) (de_callTy false real_int call_int1 T.n_int (by rfl) (da_cons (de_div (de_var 0) (de_var 2)) da_nil))) (da_cons (de_mul false (de_var 3) (de_callTy false real_int call_int1 T.n_int (by rfl) (da_cons (de_div (de_var 1) (de_var 2)) da_nil))) da_nil)))))))
theorem ok__law_plus : FnOk P w G.K mg base (L2.CX P w) 3 T.f__law_plus T.d__law_plus ["one", "other"] (spD G 2 c__law_plus) := fn_K (m := m__law_plus) T.F__law_plus sc__law_plus fun cdv A outer s H E hr => (dss_one (ds_ret (de_call (ok__law_fraction_of T) (hr.mono (by decide)) T.g__law_fraction_of T.F__law_fraction_of.kp (b__law_fraction_of T) (da_cons (de_add false (de_mul false (de_ix (de_var 0) de_int) (de_ix (de_var 1) de_int)) (de_mul false (de_ix (de_var 1) de_int) (de_ix (de_var 0) de_int))) (da_cons (de_mul false (de_ix (de_var 0) de_int) (de_ix (de_var 1) de_int)) da_nil)))))
theorem ok__law_times : FnOk P w G.K mg base (L2.CX P w) 3 T.f__law_times T.d__law_times ["one", "other"] (spD G 2 c__law_times) := fn_K (m := m__law_times) T.F__law_times sc__law_times fun cdv A outer s H E hr => (dss_one (ds_ret (de_call (ok__law_fraction_of T) (hr.mono (by decide)) T.g__law_fraction_of T.F__law_fraction_of.kp (b__law_fraction_of T) (da_cons (de_mul false (de_ix (de_var 0) de_int) (de_ix (de_var 1) de_int)) (da_cons (de_mul false (de_ix (de_var 0) de_int) (de_ix (de_var 1) de_int)) da_nil)))))
theorem ok__law_often : FnOk P w G.K mg base (L2.CX P w) 1 T.f__law_often T.d__law_often ["number", "p"] (spD G 2 c__law_often) := fn_K (m := m__law_often) T.F__law_often sc__law_often fun cdv A outer s H E hr => (dss_cons (ds_set (i := 2) sc__law_often.nd de_int) (dss_cons (ds_for (di_range1 T.n_range (da_cons de_int da_nil)) (dg_name sc__law_often.nd) (dss_cons (ds_if (dt_c c_ne (de_mod (de_callTy false real_int call_int1 T.n_int (by rfl) (da_cons (de_var 0) da_nil)) (de_var 1)) de_int) (dss_one ds_break) dss_nil) (dss_one (ds_par (i := 0) (j := 2) sc__law_often.nd (da_cons (de_callTy false real_int call_int1 T.n_int (by rfl) (da_cons (de_div (de_var 0) (de_var 1)) da_nil)) (da_cons (de_add false (de_var 2) de_int) da_nil)))))) (dss_one (ds_ret (de_var 2)))))
theorem ok__law_power_modulo : FnOk P w G.K mg base (L2.CX P w) 1 T.f__law_power_modulo T.d__law_power_modulo ["base", "many", "q"] (spD G 3 c__law_power_modulo) := fn_K (m := m__law_power_modulo) T.F__law_power_modulo sc__law_power_modulo fun cdv A outer s H E hr => (dss_cons (ds_par (i := 3) (j := 4) sc__law_power_modulo.nd (da_cons de_int (da_cons (de_mod (de_callTy false real_int call_int1 T.n_int (by rfl) (da_cons (de_var 0) da_nil)) (de_var 2)) da_nil))) (dss_cons (ds_for (di_range1 T.n_range (da_cons de_int da_nil)) (dg_name sc__law_power_modulo.nd) (dss_cons (ds_if (dt_c c_eq (de_var 1) de_int) (dss_one ds_break) dss_nil) (dss_cons (ds_if (dt_c c_eq (de_mod (de_callTy false real_int call_int1 T.n_int (by rfl) (da_cons (de_var 1) da_nil)) de_int) de_int) (dss_one (ds_set (i := 3) sc__law_power_modulo.nd (de_mod (de_callTy false real_int call_int1 T.n_int (by rfl) (da_cons (de_mul false (de_var 3) (de_var 4)) da_nil)) (de_var 2)))) dss_nil) (dss_cons (ds_set (i := 4) sc__law_power_modulo.nd (de_mod (de_callTy false real_int call_int1 T.n_int (by rfl) (da_cons (de_mul false (de_var 4) (de_var 4)) da_nil)) (de_var 2))) (dss_one (ds_set (i := 1) sc__law_power_modulo.nd (de_callTy false real_int call_int1 T.n_int (by rfl) (da_cons (de_div (de_var 1) de_int) da_nil)))))))) (dss_one (ds_ret (de_var 3)))))
theorem ok__law_sign : FnOk P w G.K mg base (L2.CX P w) 2 T.f__law_sign T.d__law_sign ["number", "p"] (spD G 2 c__law_sign) := fn_K (m := m__law_sign) T.F__law_sign sc__law_sign fun cdv A outer s H E hr => (dss_one (ds_ret (de_if (dt_c c_eq (de_call (ok__law_power_modulo T) (hr.mono (by decide)) T.g__law_power_modulo T.F__law_power_modulo.kp (b__law_power_modulo T) (da_cons (de_var 0) (da_cons (de_callTy false real_int call_int1 T.n_int (by rfl) (da_cons (de_div (de_sub (de_var 1) de_int) de_int) da_nil)) (da_cons (de_var 1) da_nil)))) de_int) de_int (de_neg de_int))))
theorem ok__law_primes_in : FnOk P w G.K mg base (L2.CX P w) 1 T.f__law_primes_in T.d__law_primes_in ["number"] (spD G 1 c__law_primes_in) := fn_T (m := m__law_primes_in) T.F__law_primes_in sc__law_primes_in fun cdv A outer s H E hr => (dss_cons (ds_par3 (i := 1) (j := 2) (l := 3) sc__law_primes_in.nd (da_cons (de_callB false real_abs call_abs T.n_abs (by rfl) (da_cons (de_var 0) da_nil)) (da_cons (de_lst true da_nil) (da_cons de_int da_nil)))) (dss_cons (ds_for (di_range1 T.n_range (da_cons de_int da_nil)) (dg_name sc__law_primes_in.nd) (dss_cons (ds_if (dt_c c_gt (de_mul false (de_var 3) (de_var 3)) (de_var 1)) (dss_one ds_break) dss_nil) (dss_cons (ds_if (dt_c c_eq (de_mod (de_callTy false real_int call_int1 T.n_int (by rfl) (da_cons (de_var 1) da_nil)) (de_var 3)) de_int) (dss_cons (ds_expr (de_mt real_append mt_append PySem.F.slot_list_append PySem.F.type_list_append (de_var 2) (da_cons (de_var 3) da_nil))) (dss_one (ds_for (di_range1 T.n_range (da_cons de_int da_nil)) (dg_name sc__law_primes_in.nd) (dss_cons (ds_if (dt_c c_ne (de_mod (de_callTy false real_int call_int1 T.n_int (by rfl) (da_cons (de_var 1) da_nil)) (de_var 3)) de_int) (dss_one ds_break) dss_nil) (dss_one (ds_set (i := 1) sc__law_primes_in.nd (de_callTy false real_int call_int1 T.n_int (by rfl) (da_cons (de_div (de_var 1) (de_var 3)) da_nil)))))))) dss_nil) (dss_one (ds_set (i := 3) sc__law_primes_in.nd (de_add false (de_var 3) de_int)))))) (dss_one (ds_ret (de_if (dt_c c_gt (de_var 1) de_int) (de_add false (de_var 2) (de_lst false (da_cons (de_var 1) da_nil))) (de_var 2))))))
theorem ok__law_discriminant : FnOk P w G.K mg base (L2.CX P w) 2 T.f__law_discriminant T.d__law_discriminant ["number"] (spD G 1 c__law_discriminant) := fn_K (m := m__law_discriminant) T.F__law_discriminant sc__law_discriminant fun cdv A outer s H E hr => (dss_cons (ds_set (i := 1) sc__law_discriminant.nd (de_if (dt_c c_gt (de_var 0) de_int) de_int (de_neg de_int))) (dss_cons (ds_for (di_seq (de_call (ok__law_primes_in T) (hr.mono (by decide)) T.g__law_primes_in T.F__law_primes_in.kp (b__law_primes_in T) (da_cons (de_var 0) da_nil))) (dg_name sc__law_discriminant.nd) (dss_one (ds_if (dt_c c_eq (de_mod (de_callTy false real_int call_int1 T.n_int (by rfl) (da_cons (de_call (ok__law_often T) (hr.mono (by decide)) T.g__law_often T.F__law_often.kp (b__law_often T) (da_cons (de_var 0) (da_cons (de_var 2) da_nil))) da_nil)) de_int) de_int) (dss_one (ds_set (i := 1) sc__law_discriminant.nd (de_mul false (de_var 1) (de_var 2)))) dss_nil))) (dss_one (ds_ret (de_if (dt_c c_eq (de_mod (de_callTy false real_int call_int1 T.n_int (by rfl) (da_cons (de_var 1) da_nil)) de_int) de_int) (de_var 1) (de_mul false de_int (de_var 1)))))))
theorem ok__law_character : FnOk P w G.K mg base (L2.CX P w) 3 T.f__law_character T.d__law_character ["d", "a"] (spD G 2 c__law_character) := fn_K (m := m__law_character) T.F__law_character sc__law_character fun cdv A outer s H E hr => (dss_cons (ds_if (dt_c c_gt (de_call (ok__law_common T) (hr.mono (by decide)) T.g__law_common T.F__law_common.kp (b__law_common T) (da_cons (de_var 0) (da_cons (de_var 1) da_nil))) de_int) (dss_one (ds_ret de_int)) dss_nil) (dss_cons (ds_set (i := 2) sc__law_character.nd de_int) (dss_cons (ds_for (di_seq (de_call (ok__law_primes_in T) (hr.mono (by decide)) T.g__law_primes_in T.F__law_primes_in.kp (b__law_primes_in T) (da_cons (de_var 1) da_nil))) (dg_name sc__law_character.nd) (dss_cons (ds_set (i := 4) sc__law_character.nd (de_if (dt_c c_eq (de_var 3) de_int) (de_if (dt_c c_eq (de_mod (de_callTy false real_int call_int1 T.n_int (by rfl) (da_cons (de_var 0) da_nil)) de_int) de_int) de_int (de_neg de_int)) (de_call (ok__law_sign T) (hr.mono (by decide)) T.g__law_sign T.F__law_sign.kp (b__law_sign T) (da_cons (de_var 0) (da_cons (de_var 3) da_nil))))) (dss_one (ds_for (di_range1 T.n_range (da_cons (de_call (ok__law_often T) (hr.mono (by decide)) T.g__law_often T.F__law_often.kp (b__law_often T) (da_cons (de_var 1) (da_cons (de_var 3) da_nil))) da_nil)) (dg_name sc__law_character.nd) (dss_one (ds_set (i := 2) sc__law_character.nd (de_mul false (de_var 2) (de_var 4)))))))) (dss_one (ds_ret (de_var 2))))))
theorem ok__law_polynomial : FnOk P w G.K mg base (L2.CX P w) 4 T.f__law_polynomial T.d__law_polynomial ["k"] (spD G 1 c__law_polynomial) := fn_T (m := m__law_polynomial) T.F__law_polynomial sc__law_polynomial fun cdv A outer s H E hr => (dss_cons (ds_set (i := 1) sc__law_polynomial.nd (de_lst true (da_cons (de_tup (da_cons de_int (da_cons de_int da_nil))) da_nil))) (dss_cons (ds_for (di_range2 T.n_range (da_cons de_int (da_cons (de_add false (de_var 0) de_int) da_nil))) (dg_name sc__law_polynomial.nd) (dss_cons (ds_set (i := 1) sc__law_polynomial.nd (de_add true (de_lst false (da_cons (de_tup (da_cons de_int (da_cons de_int da_nil))) da_nil)) (de_lc false (ow := [("i", 4)]) sc__law_polynomial.nd (di_range1 T.n_range (da_cons (de_var 2) da_nil)) (blkOk_by (N := N__law_polynomial) (sc := defScope s__law_polynomial) (by decide +kernel)) (gw_name 4) (hm_name 4) (fun _ _ _ _ _ => pg_name (i := 4) sc__law_polynomial.nd rfl (Or.inl rfl)) (fun _ _ _ _ _ => dts_nil) (fun _ _ _ _ _ => (de_call (ok__law_times T) (hr.mono (by decide)) T.g__law_times T.F__law_times.kp (b__law_times T) (da_cons (de_ix (de_var 1) (de_var 4)) (da_cons (de_tup (da_cons (de_var 2) (da_cons (de_add false (de_var 4) de_int) da_nil))) da_nil))))))) (dss_cons (ds_set (i := 3) sc__law_polynomial.nd (de_tup (da_cons de_int (da_cons de_int da_nil)))) (dss_cons (ds_for (di_range1 T.n_range (da_cons (de_add false (de_var 2) de_int) da_nil)) (dg_name sc__law_polynomial.nd) (dss_one (ds_set (i := 3) sc__law_polynomial.nd (de_call (ok__law_plus T) (hr.mono (by decide)) T.g__law_plus T.F__law_plus.kp (b__law_plus T) (da_cons (de_var 3) (da_cons (de_call (ok__law_times T) (hr.mono (by decide)) T.g__law_times T.F__law_times.kp (b__law_times T) (da_cons (de_ix (de_var 1) (de_var 4)) (da_cons (de_tup (da_cons de_int (da_cons (de_add false (de_var 4) de_int) da_nil))) da_nil))) da_nil)))))) (dss_one (ds_asg (de_call (ok__law_times T) (hr.mono (by decide)) T.g__law_times T.F__law_times.kp (b__law_times T) (da_cons (de_var 3) (da_cons (de_tup (da_cons (de_neg de_int) (da_cons de_int da_nil))) da_nil))) (dg_sub (de_var 1) de_int))))))) (dss_one (ds_ret (de_var 1)))))
theorem ok__law_bernoulli : FnOk P w G.K mg base (L2.CX P w) 5 T.f__law_bernoulli T.d__law_bernoulli ["k", "d"] (spD G 2 c__law_bernoulli) := fn_K (m := m__law_bernoulli) T.F__law_bernoulli sc__law_bernoulli fun cdv A outer s H E hr => (dss_cons (ds_par (i := 2) (j := 3) sc__law_bernoulli.nd (da_cons (de_call (ok__law_polynomial T) (hr.mono (by decide)) T.g__law_polynomial T.F__law_polynomial.kp (b__law_polynomial T) (da_cons (de_var 0) da_nil)) (da_cons (de_callB false real_abs call_abs T.n_abs (by rfl) (da_cons (de_var 1) da_nil)) da_nil))) (dss_cons (ds_set (i := 4) sc__law_bernoulli.nd (de_tup (da_cons de_int (da_cons de_int da_nil)))) (dss_cons (ds_for (di_range2 T.n_range (da_cons de_int (da_cons (de_add false (de_var 3) de_int) da_nil))) (dg_name sc__law_bernoulli.nd) (dss_cons (ds_set (i := 6) sc__law_bernoulli.nd (de_call (ok__law_character T) (hr.mono (by decide)) T.g__law_character T.F__law_character.kp (b__law_character T) (da_cons (de_var 1) (da_cons (de_var 5) da_nil)))) (dss_one (ds_if (dt_c c_ne (de_var 6) de_int) (dss_cons (ds_set (i := 7) sc__law_bernoulli.nd (de_tup (da_cons de_int (da_cons de_int da_nil)))) (dss_cons (ds_for (di_seq (de_rev false (de_var 2))) (dg_name sc__law_bernoulli.nd) (dss_one (ds_set (i := 7) sc__law_bernoulli.nd (de_call (ok__law_plus T) (hr.mono (by decide)) T.g__law_plus T.F__law_plus.kp (b__law_plus T) (da_cons (de_call (ok__law_times T) (hr.mono (by decide)) T.g__law_times T.F__law_times.kp (b__law_times T) (da_cons (de_var 7) (da_cons (de_tup (da_cons (de_var 5) (da_cons (de_var 3) da_nil))) da_nil))) (da_cons (de_var 8) da_nil)))))) (dss_one (ds_set (i := 4) sc__law_bernoulli.nd (de_call (ok__law_plus T) (hr.mono (by decide)) T.g__law_plus T.F__law_plus.kp (b__law_plus T) (da_cons (de_var 4) (da_cons (de_call (ok__law_times T) (hr.mono (by decide)) T.g__law_times T.F__law_times.kp (b__law_times T) (da_cons (de_var 7) (da_cons (de_tup (da_cons (de_var 6) (da_cons de_int da_nil))) da_nil))) da_nil))))))) dss_nil)))) (dss_one (ds_ret (de_call (ok__law_times T) (hr.mono (by decide)) T.g__law_times T.F__law_times.kp (b__law_times T) (da_cons (de_var 4) (da_cons (de_tup (da_cons (de_call (ok__law_power T) (hr.mono (by decide)) T.g__law_power T.F__law_power.kp (b__law_power T) (da_cons (de_var 3) (da_cons (de_sub (de_var 0) de_int) da_nil))) (da_cons de_int da_nil))) da_nil))))))))
theorem ok__law_class_number : FnOk P w G.K mg base (L2.CX P w) 2 T.f__law_class_number T.d__law_class_number ["d"] (spD G 1 c__law_class_number) := fn_K (m := m__law_class_number) T.F__law_class_number sc__law_class_number fun cdv A outer s H E hr => (dss_cons (ds_set (i := 1) sc__law_class_number.nd de_int) (dss_cons (ds_for (di_range2 T.n_range (da_cons de_int (da_cons (de_add false de_int (de_call (ok__law_root T) (hr.mono (by decide)) T.g__law_root T.F__law_root.kp (b__law_root T) (da_cons (de_add false (de_callTy false real_int call_int1 T.n_int (by rfl) (da_cons (de_div (de_neg (de_var 0)) de_int) da_nil)) de_int) da_nil))) da_nil))) (dg_name sc__law_class_number.nd) (dss_one (ds_for (di_range2 T.n_range (da_cons (de_sub de_int (de_var 2)) (da_cons (de_add false (de_var 2) de_int) da_nil))) (dg_name sc__law_class_number.nd) (dss_cons (ds_set (i := 4) sc__law_class_number.nd (de_sub (de_mul false (de_var 3) (de_var 3)) (de_var 0))) (dss_one (ds_if (dt_c c_eq (de_mod (de_callTy false real_int call_int1 T.n_int (by rfl) (da_cons (de_var 4) da_nil)) (de_mul false de_int (de_var 2))) de_int) (dss_cons (ds_set (i := 5) sc__law_class_number.nd (de_callTy false real_int call_int1 T.n_int (by rfl) (da_cons (de_div (de_var 4) (de_mul false de_int (de_var 2))) da_nil))) (dss_one (ds_if (dt_w (dw_or (dt_c c_gt (de_var 5) (de_var 2)) (dw_or1 (dt_w (dw_and (dt_c c_eq (de_var 5) (de_var 2)) (dw_and1 (dt_c c_ge (de_var 3) de_int))))))) (dss_one (ds_set (i := 1) sc__law_class_number.nd (de_add false (de_var 1) (de_callTy false real_int call_int1 T.n_int (by rfl) (da_cons (de_c c_eq (de_call (ok__law_common T) (hr.mono (by decide)) T.g__law_common T.F__law_common.kp (b__law_common T) (da_cons (de_call (ok__law_common T) (hr.mono (by decide)) T.g__law_common T.F__law_common.kp (b__law_common T) (da_cons (de_var 2) (da_cons (de_var 3) da_nil))) (da_cons (de_var 5) da_nil))) de_int) da_nil))))) dss_nil))) dss_nil)))))) (dss_one (ds_ret (de_var 1)))))
theorem ok__law_fault : FnOk P w G.K mg base (L2.CX P w) 6 T.f__law_fault T.d__law_fault ["word", "one", "two"] (spD G 3 c__law_fault) := fn_K (m := m__law_fault) T.F__law_fault sc__law_fault fun cdv A outer s H E hr => (dss_cons (ds_try sc__law_fault.nd (fun W pn xe tk hp => (dss_one (ds_if (dt_c c_eq (de_var 0) de_str) (dss_one (ds_expr (de_call (ok_discriminant T) (hr.mono (by decide)) T.g_discriminant T.F_discriminant.kp (b_discriminant T) (da_cons (de_var 1) da_nil)))) (dss_one (ds_expr (de_call (ok_bernoulli_number T) (hr.mono (by decide)) T.g_bernoulli_number T.F_bernoulli_number.kp (b_bernoulli_number T) (da_cons (de_var 1) (da_cons (de_var 2) da_nil)))))))) (HdsD.cons ⟨by rfl, by decide, .inl T.g_BadNumber⟩ rfl rfl T.e_BadNumber (fun a oe pn cn dd ht hz hv => (dss_one (ds_ret (de_tup (da_cons de_str (da_cons (de_isE (T.xc cn (mem_is_BadNumber ht)) hz hv (T.s_FormError cn) T.n_isinstance (de_var 3) (pe_clsN T.g_FormError)) (da_cons (de_isE (T.xc cn (mem_is_BadNumber ht)) hz hv (T.s_TooGreat cn) T.n_isinstance (de_var 3) (pe_clsN T.g_TooGreat)) da_nil))))))) (HdsD.cons ⟨by rfl, by decide, .inl T.g_TooGreat⟩ rfl rfl T.e_TooGreat (fun a oe pn cn dd ht hz hv => (dss_one (ds_ret (de_tup (da_cons de_str (da_cons (de_isE (T.xc cn (mem_is_TooGreat ht)) hz hv (T.s_FormError cn) T.n_isinstance (de_var 3) (pe_clsN T.g_FormError)) (da_cons (de_isE (T.xc cn (mem_is_TooGreat ht)) hz hv (T.s_BadNumber cn) T.n_isinstance (de_var 3) (pe_clsN T.g_BadNumber)) da_nil))))))) HdsD.nil))) (dss_one (ds_ret (de_tup (da_cons de_str da_nil)))))
theorem ok__law_refuses : FnOk P w G.K mg base (L2.CX P w) 10 T.f__law_refuses T.d__law_refuses ["pool"] (spD G 1 c__law_refuses) := fn_K (m := m__law_refuses) T.F__law_refuses sc__law_refuses fun cdv A outer s H E hr => (dss_cons (ds_set (i := 1) sc__law_refuses.nd (de_call (ok__law_pick T) (hr.mono (by decide)) T.g__law_pick T.F__law_pick.kp (b__law_pick T) (da_cons (de_var 0) (da_cons (de_lst false (da_cons de_non (da_cons de_bl (da_cons de_str (da_cons de_int (da_cons (de_tup (da_cons de_int da_nil)) (da_cons de_dic da_nil))))))) da_nil)))) (dss_cons (ds_if (dt_not (dt_tru (de_call (ok__law_same T 8) (hr.mono (by decide)) T.g__law_same T.F__law_same.kp (b__law_same T) (da_cons (de_call (ok__law_fault T) (hr.mono (by decide)) T.g__law_fault T.F__law_fault.kp (b__law_fault T) (da_cons de_str (da_cons (de_var 1) (da_cons de_non da_nil)))) (da_cons (de_tup (da_cons de_str (da_cons de_bl (da_cons de_bl da_nil)))) da_nil))))) (dss_one (ds_ret de_bl)) dss_nil) (dss_cons (ds_if (dt_not (dt_tru (de_call (ok__law_same T 8) (hr.mono (by decide)) T.g__law_same T.F__law_same.kp (b__law_same T) (da_cons (de_call (ok__law_fault T) (hr.mono (by decide)) T.g__law_fault T.F__law_fault.kp (b__law_fault T) (da_cons de_str (da_cons (de_call (ok__law_pick T) (hr.mono (by decide)) T.g__law_pick T.F__law_pick.kp (b__law_pick T) (da_cons (de_var 0) (da_cons (de_lst false (da_cons (de_add false (de_pow de_int de_int) de_int) (da_cons (de_sub (de_neg (de_pow de_int de_int)) de_int) (da_cons (de_pow de_int de_int) da_nil)))) da_nil))) (da_cons de_non da_nil)))) (da_cons (de_tup (da_cons de_str (da_cons de_bl (da_cons de_bl da_nil)))) da_nil))))) (dss_one (ds_ret de_bl)) dss_nil) (dss_cons (ds_if (dt_not (dt_tru (de_call (ok__law_same T 8) (hr.mono (by decide)) T.g__law_same T.F__law_same.kp (b__law_same T) (da_cons (de_call (ok__law_fault T) (hr.mono (by decide)) T.g__law_fault T.F__law_fault.kp (b__law_fault T) (da_cons de_str (da_cons (de_call (ok__law_pick T) (hr.mono (by decide)) T.g__law_pick T.F__law_pick.kp (b__law_pick T) (da_cons (de_var 0) (da_cons (de_lst false (da_cons de_int (da_cons de_int (da_cons (de_neg de_int) (da_cons de_non (da_cons de_bl (da_cons de_str da_nil))))))) da_nil))) (da_cons de_int da_nil)))) (da_cons (de_tup (da_cons de_str (da_cons de_bl (da_cons de_bl da_nil)))) da_nil))))) (dss_one (ds_ret de_bl)) dss_nil) (dss_cons (ds_if (dt_not (dt_tru (de_call (ok__law_same T 8) (hr.mono (by decide)) T.g__law_same T.F__law_same.kp (b__law_same T) (da_cons (de_call (ok__law_fault T) (hr.mono (by decide)) T.g__law_fault T.F__law_fault.kp (b__law_fault T) (da_cons de_str (da_cons de_int (da_cons (de_var 1) da_nil)))) (da_cons (de_tup (da_cons de_str (da_cons de_bl (da_cons de_bl da_nil)))) da_nil))))) (dss_one (ds_ret de_bl)) dss_nil) (dss_cons (ds_if (dt_not (dt_tru (de_call (ok__law_same T 8) (hr.mono (by decide)) T.g__law_same T.F__law_same.kp (b__law_same T) (da_cons (de_call (ok__law_fault T) (hr.mono (by decide)) T.g__law_fault T.F__law_fault.kp (b__law_fault T) (da_cons de_str (da_cons de_int (da_cons (de_call (ok__law_pick T) (hr.mono (by decide)) T.g__law_pick T.F__law_pick.kp (b__law_pick T) (da_cons (de_var 0) (da_cons (de_lst false (da_cons de_int (da_cons (de_neg de_int) (da_cons (de_pow de_int de_int) (da_cons de_int da_nil))))) da_nil))) da_nil)))) (da_cons (de_tup (da_cons de_str (da_cons de_bl (da_cons de_bl da_nil)))) da_nil))))) (dss_one (ds_ret de_bl)) dss_nil) (dss_cons (ds_set (i := 2) sc__law_refuses.nd (de_call (ok__law_pick T) (hr.mono (by decide)) T.g__law_pick T.F__law_pick.kp (b__law_pick T) (da_cons (de_var 0) (da_cons (de_lst false (da_cons de_int (da_cons de_int (da_cons de_int (da_cons de_int (da_cons de_int (da_cons de_int (da_cons (de_neg de_int) (da_cons (de_neg de_int) (da_cons (de_neg de_int) (da_cons (de_neg de_int) (da_cons (de_neg de_int) (da_cons (de_neg de_int) (da_cons de_int (da_cons de_int (da_cons de_int da_nil)))))))))))))))) da_nil)))) (dss_one (ds_ret (de_call (ok__law_same T 8) (hr.mono (by decide)) T.g__law_same T.F__law_same.kp (b__law_same T) (da_cons (de_call (ok__law_fault T) (hr.mono (by decide)) T.g__law_fault T.F__law_fault.kp (b__law_fault T) (da_cons de_str (da_cons (de_add false de_int (de_call (ok__law_take T 2) (hr.mono (by decide)) T.g__law_take T.F__law_take.kp (b__law_take T) (da_cons (de_var 0) (da_cons de_int da_nil)))) (da_cons (de_var 2) da_nil)))) (da_cons (de_tup (da_cons de_str (da_cons de_bl (da_cons de_bl da_nil)))) da_nil))))))))))))
theorem ok__law_known : FnOk P w G.K mg base (L2.CX P w) 10 T.f__law_known T.d__law_known ["pool"] (spD G 1 c__law_known) := fn_K (m := m__law_known) T.F__law_known sc__law_known fun cdv A outer s H E hr => (dss_cons (ds_asg (de_call (ok__law_pick T) (hr.mono (by decide)) T.g__law_pick T.F__law_pick.kp (b__law_pick T) (da_cons (de_var 0) (da_cons (de_lst false (da_cons (de_tup (da_cons de_int (da_cons de_int (da_cons (de_tup (da_cons de_int (da_cons de_int da_nil))) da_nil)))) (da_cons (de_tup (da_cons de_int (da_cons de_int (da_cons (de_tup (da_cons (de_neg de_int) (da_cons de_int da_nil))) da_nil)))) (da_cons (de_tup (da_cons de_int (da_cons de_int (da_cons (de_tup (da_cons de_int (da_cons de_int da_nil))) da_nil)))) (da_cons (de_tup (da_cons de_int (da_cons de_int (da_cons (de_tup (da_cons (de_neg de_int) (da_cons de_int da_nil))) da_nil)))) (da_cons (de_tup (da_cons de_int (da_cons de_int (da_cons (de_tup (da_cons de_int (da_cons de_int da_nil))) da_nil)))) (da_cons (de_tup (da_cons de_int (da_cons de_int (da_cons (de_tup (da_cons de_int (da_cons de_int da_nil))) da_nil)))) (da_cons (de_tup (da_cons de_int (da_cons (de_neg de_int) (da_cons (de_tup (da_cons (de_neg de_int) (da_cons de_int da_nil))) da_nil)))) (da_cons (de_tup (da_cons de_int (da_cons (de_neg de_int) (da_cons (de_tup (da_cons (de_neg de_int) (da_cons de_int da_nil))) da_nil)))) (da_cons (de_tup (da_cons de_int (da_cons de_int (da_cons (de_tup (da_cons de_int (da_cons de_int da_nil))) da_nil)))) (da_cons (de_tup (da_cons de_int (da_cons de_int (da_cons (de_tup (da_cons de_int (da_cons de_int da_nil))) da_nil)))) (da_cons (de_tup (da_cons de_int (da_cons de_int (da_cons (de_tup (da_cons de_int (da_cons de_int da_nil))) da_nil)))) (da_cons (de_tup (da_cons de_int (da_cons (de_neg de_int) (da_cons (de_tup (da_cons de_int (da_cons de_int da_nil))) da_nil)))) (da_cons (de_tup (da_cons de_int (da_cons (de_neg de_int) (da_cons (de_tup (da_cons de_int (da_cons de_int da_nil))) da_nil)))) da_nil)))))))))))))) da_nil))) (dg_tup (dgs_cons (dg_name sc__law_known.nd) (dgs_cons (dg_name sc__law_known.nd) (dgs_cons (dg_name sc__law_known.nd) dgs_nil))))) (dss_cons (ds_if (dt_not (dt_tru (de_call (ok__law_same T 8) (hr.mono (by decide)) T.g__law_same T.F__law_same.kp (b__law_same T) (da_cons (de_call (ok_bernoulli_number T) (hr.mono (by decide)) T.g_bernoulli_number T.F_bernoulli_number.kp (b_bernoulli_number T) (da_cons (de_var 1) (da_cons (de_var 2) da_nil))) (da_cons (de_var 3) da_nil))))) (dss_one (ds_ret de_bl)) dss_nil) (dss_cons (ds_set (i := 2) sc__law_known.nd (de_call (ok__law_discriminant T) (hr.mono (by decide)) T.g__law_discriminant T.F__law_discriminant.kp (b__law_discriminant T) (da_cons (de_sub (de_neg de_int) (de_call (ok__law_take T 2) (hr.mono (by decide)) T.g__law_take T.F__law_take.kp (b__law_take T) (da_cons (de_var 0) (da_cons de_int da_nil)))) da_nil))) (dss_cons (ds_if (dt_w (dw_and (dt_c c_lt (de_var 2) (de_neg de_int)) (dw_and1 (dt_not (dt_tru (de_call (ok__law_same T 8) (hr.mono (by decide)) T.g__law_same T.F__law_same.kp (b__law_same T) (da_cons (de_call (ok_bernoulli_number T) (hr.mono (by decide)) T.g_bernoulli_number T.F_bernoulli_number.kp (b_bernoulli_number T) (da_cons de_int (da_cons (de_var 2) da_nil))) (da_cons (de_tup (da_cons (de_neg (de_call (ok__law_class_number T) (hr.mono (by decide)) T.g__law_class_number T.F__law_class_number.kp (b__law_class_number T) (da_cons (de_var 2) da_nil))) (da_cons de_int da_nil))) da_nil)))))))) (dss_one (ds_ret de_bl)) dss_nil) (dss_one (ds_ret de_bl))))))
theorem ok_law (hl : ∀ ns : List Int, ns.length ≤ 63 → ∃ M, m_law (startD N_law [.scr ns]) [] = .rt (.bl true) M) : FnOk P w G.K mg base CX0 11 T.f_law T.d_law ["script"] (spLaw G.K) := fn_law (m := m_law) T.F_law sc_law (fun cdv A outer s H E hr => (dss_cons (ds_set (i := 1) sc_law.nd (de_call (ok__law_pool T) (hr.mono (by decide)) T.g__law_pool T.F__law_pool.kp (b__law_pool T) (da_cons (de_var 0) da_nil))) (dss_cons (ds_if (dt_w (dw_or (dt_not (dt_tru (de_call (ok__law_refuses T) (hr.mono (by decide)) T.g__law_refuses T.F__law_refuses.kp (b__law_refuses T) (da_cons (de_var 1) da_nil)))) (dw_or1 (dt_not (dt_tru (de_call (ok__law_known T) (hr.mono (by decide)) T.g__law_known T.F__law_known.kp (b__law_known T) (da_cons (de_var 1) da_nil))))))) (dss_one (ds_ret de_bl)) dss_nil) (dss_cons (ds_for (di_range1 T.n_range (da_cons de_int da_nil)) (dg_name sc_law.nd) (dss_cons (ds_set (i := 3) sc_law.nd (de_mul false (de_mul false (de_call (ok__law_pick T) (hr.mono (by decide)) T.g__law_pick T.F__law_pick.kp (b__law_pick T) (da_cons (de_var 1) (da_cons (de_lst false (da_cons de_int (da_cons (de_neg de_int) da_nil))) da_nil))) (de_add false de_int (de_call (ok__law_take T 2) (hr.mono (by decide)) T.g__law_take T.F__law_take.kp (b__law_take T) (da_cons (de_var 1) (da_cons (de_call (ok__law_pick T) (hr.mono (by decide)) T.g__law_pick T.F__law_pick.kp (b__law_pick T) (da_cons (de_var 1) (da_cons (de_lst false (da_cons de_int (da_cons de_int (da_cons (de_pow de_int de_int) da_nil)))) da_nil))) da_nil))))) (de_call (ok__law_pick T) (hr.mono (by decide)) T.g__law_pick T.F__law_pick.kp (b__law_pick T) (da_cons (de_var 1) (da_cons (de_lst false (da_cons de_int (da_cons de_int (da_cons de_int (da_cons de_int (da_cons de_int da_nil)))))) da_nil))))) (dss_one (ds_if (dt_not (dt_tru (de_call (ok__law_same T 8) (hr.mono (by decide)) T.g__law_same T.F__law_same.kp (b__law_same T) (da_cons (de_call (ok_discriminant T) (hr.mono (by decide)) T.g_discriminant T.F_discriminant.kp (b_discriminant T) (da_cons (de_var 3) da_nil)) (da_cons (de_call (ok__law_discriminant T) (hr.mono (by decide)) T.g__law_discriminant T.F__law_discriminant.kp (b__law_discriminant T) (da_cons (de_var 3) da_nil)) da_nil))))) (dss_one (ds_ret de_bl)) dss_nil)))) (dss_cons (ds_if (dt_not (dt_tru (de_call (ok__law_same T 8) (hr.mono (by decide)) T.g__law_same T.F__law_same.kp (b__law_same T) (da_cons (de_c c_ne (de_call (ok_discriminant T) (hr.mono (by decide)) T.g_discriminant T.F_discriminant.kp (b_discriminant T) (da_cons (de_call (ok__law_pick T) (hr.mono (by decide)) T.g__law_pick T.F__law_pick.kp (b__law_pick T) (da_cons (de_var 1) (da_cons (de_lst false (da_cons (de_pow de_int de_int) (da_cons (de_neg (de_pow de_int de_int)) (da_cons de_int (da_cons (de_neg de_int) da_nil))))) da_nil))) da_nil)) de_int) (da_cons de_bl da_nil))))) (dss_one (ds_ret de_bl)) dss_nil) (dss_cons (ds_set (i := 4) sc_law.nd (de_add false de_int (de_call (ok__law_take T 2) (hr.mono (by decide)) T.g__law_take T.F__law_take.kp (b__law_take T) (da_cons (de_var 1) (da_cons de_int da_nil))))) (dss_cons (ds_set (i := 5) sc_law.nd (de_call (ok__law_discriminant T) (hr.mono (by decide)) T.g__law_discriminant T.F__law_discriminant.kp (b__law_discriminant T) (da_cons (de_mul false (de_call (ok__law_pick T) (hr.mono (by decide)) T.g__law_pick T.F__law_pick.kp (b__law_pick T) (da_cons (de_var 1) (da_cons (de_lst false (da_cons de_int (da_cons (de_neg de_int) da_nil))) da_nil))) (de_add false de_int (de_call (ok__law_take T 2) (hr.mono (by decide)) T.g__law_take T.F__law_take.kp (b__law_take T) (da_cons (de_var 1) (da_cons de_int da_nil))))) da_nil))) (dss_one (ds_ret (de_call (ok__law_same T 8) (hr.mono (by decide)) T.g__law_same T.F__law_same.kp (b__law_same T) (da_cons (de_call (ok_bernoulli_number T) (hr.mono (by decide)) T.g_bernoulli_number T.F_bernoulli_number.kp (b_bernoulli_number T) (da_cons (de_var 4) (da_cons (de_var 5) da_nil))) (da_cons (de_call (ok__law_bernoulli T) (hr.mono (by decide)) T.g__law_bernoulli T.F__law_bernoulli.kp (b__law_bernoulli T) (da_cons (de_var 4) (da_cons (de_var 5) da_nil))) da_nil)))))))))))) hl
end
def Xs (K : PySem.W.Frag) : Prop := ∃ C_BadNumber C_FormError C_TooGreat, Exc1 K "BadNumber" C_BadNumber ∧ Exc1 K "FormError" C_FormError ∧ Exc1 K "TooGreat" C_TooGreat ∧ PySem.W.subIn K (.ref C_BadNumber) (.ref C_BadNumber) = some true ∧ PySem.W.subIn K (.ref C_BadNumber) (.ref C_FormError) = some true ∧ PySem.W.subIn K (.ref C_BadNumber) (.ref C_TooGreat) = some false ∧ PySem.W.subIn K (.ref C_FormError) (.ref C_BadNumber) = some false ∧ PySem.W.subIn K (.ref C_FormError) (.ref C_FormError) = some true ∧ PySem.W.subIn K (.ref C_FormError) (.ref C_TooGreat) = some false ∧ PySem.W.subIn K (.ref C_TooGreat) (.ref C_BadNumber) = some false ∧ PySem.W.subIn K (.ref C_TooGreat) (.ref C_FormError) = some true ∧ PySem.W.subIn K (.ref C_TooGreat) (.ref C_TooGreat) = some true
theorem Xs.mk1 {K : PySem.W.Frag} {h : Heap} (X : K.In h) {C_BadNumber C_FormError C_TooGreat : Addr} (e_BadNumber : Exc1 K "BadNumber" C_BadNumber) (e_FormError : Exc1 K "FormError" C_FormError) (e_TooGreat : Exc1 K "TooGreat" C_TooGreat) (s_BadNumber_BadNumber : PySem.W.subIn K (.ref C_BadNumber) (.ref C_BadNumber) = some true) (s_BadNumber_FormError : PySem.W.subIn K (.ref C_BadNumber) (.ref C_FormError) = some true) (s_BadNumber_TooGreat : PySem.W.subIn K (.ref C_BadNumber) (.ref C_TooGreat) = some false) (s_FormError_BadNumber : PySem.W.subIn K (.ref C_FormError) (.ref C_BadNumber) = some false) (s_FormError_FormError : PySem.W.subIn K (.ref C_FormError) (.ref C_FormError) = some true) (s_FormError_TooGreat : PySem.W.subIn K (.ref C_FormError) (.ref C_TooGreat) = some false) (s_TooGreat_BadNumber : PySem.W.subIn K (.ref C_TooGreat) (.ref C_BadNumber) = some false) (s_TooGreat_FormError : PySem.W.subIn K (.ref C_TooGreat) (.ref C_FormError) = some true) (s_TooGreat_TooGreat : PySem.W.subIn K (.ref C_TooGreat) (.ref C_TooGreat) = some true) : Xs K := ⟨C_BadNumber, C_FormError, C_TooGreat, e_BadNumber, e_FormError, e_TooGreat, s_BadNumber_BadNumber, s_BadNumber_FormError, s_BadNumber_TooGreat, s_FormError_BadNumber, s_FormError_FormError, s_FormError_TooGreat, s_TooGreat_BadNumber, s_TooGreat_FormError, s_TooGreat_TooGreat⟩
structure Facts (K : PySem.W.Frag) : Prop where
  d_power : Def1 K "power" s_power
  d_primes_in : Def1 K "primes_in" s_primes_in
  d_parted : Def1 K "parted" s_parted
  d_often_in : Def1 K "often_in" s_often_in
  d_is_whole : Def1 K "is_whole" s_is_whole
  d_fraction : Def1 K "fraction" s_fraction
  d_sum_of : Def1 K "sum_of" s_sum_of
  d_times_of : Def1 K "times_of" s_times_of
  d_told_whole : Def1 K "told_whole" s_told_whole
  d_discriminant_of : Def1 K "discriminant_of" s_discriminant_of
  d_discriminant : Def1 K "discriminant" s_discriminant
  d_squares_row : Def1 K "squares_row" s_squares_row
  d_periods_of : Def1 K "periods_of" s_periods_of
  d_power_sums : Def1 K "power_sums" s_power_sums
  d_bernoulli_of : Def1 K "bernoulli_of" s_bernoulli_of
  d_bernoulli_number : Def1 K "bernoulli_number" s_bernoulli_number
  d__law_pool : Def1 K "_law_pool" s__law_pool
  d__law_take : Def1 K "_law_take" s__law_take
  d__law_pick : Def1 K "_law_pick" s__law_pick
  d__law_is_integer : Def1 K "_law_is_integer" s__law_is_integer
  d__law_same : Def1 K "_law_same" s__law_same
  d__law_power : Def1 K "_law_power" s__law_power
  d__law_common : Def1 K "_law_common" s__law_common
  d__law_root : Def1 K "_law_root" s__law_root
  d__law_fraction_of : Def1 K "_law_fraction_of" s__law_fraction_of
  d__law_plus : Def1 K "_law_plus" s__law_plus
  d__law_times : Def1 K "_law_times" s__law_times
  d__law_often : Def1 K "_law_often" s__law_often
  d__law_power_modulo : Def1 K "_law_power_modulo" s__law_power_modulo
  d__law_sign : Def1 K "_law_sign" s__law_sign
  d__law_primes_in : Def1 K "_law_primes_in" s__law_primes_in
  d__law_discriminant : Def1 K "_law_discriminant" s__law_discriminant
  d__law_character : Def1 K "_law_character" s__law_character
  d__law_polynomial : Def1 K "_law_polynomial" s__law_polynomial
  d__law_bernoulli : Def1 K "_law_bernoulli" s__law_bernoulli
  d__law_class_number : Def1 K "_law_class_number" s__law_class_number
  d__law_fault : Def1 K "_law_fault" s__law_fault
  d__law_refuses : Def1 K "_law_refuses" s__law_refuses
  d__law_known : Def1 K "_law_known" s__law_known
  d_law : Def1 K "law" s_law
  n_abs : No1 K "abs"
  n_all : No1 K "all"
  n_bool : No1 K "bool"
  n_enumerate : No1 K "enumerate"
  n_int : No1 K "int"
  n_isinstance : No1 K "isinstance"
  n_len : No1 K "len"
  n_list : No1 K "list"
  n_range : No1 K "range"
  n_str : No1 K "str"
  n_tuple : No1 K "tuple"
  i_comb : Blt1 K "comb" "math.comb"
  i_gcd : Blt1 K "gcd" "math.gcd"
  v_MOST_GIVEN : Int1 K "MOST_GIVEN" (1000000000)
  v_MOST_PERIOD : Int1 K "MOST_PERIOD" (400000)
  v_MOST_WHOLE : Int1 K "MOST_WHOLE" (1000000000000000000000000000000000000000000000000000000000000)
  v_NUMBERS : KtT K "NUMBERS" [[1, 1], [-1, 2], [1, 6], [0, 1], [-1, 30], [0, 1], [1, 42], [0, 1], [-1, 30]]
  v_EIGHTHS : KdN K "EIGHTHS" [(1, [1, 1, 1, 1, 1, 1, 1, 1]), (-4, [0, 1, 0, -1, 0, 1, 0, -1]), (8, [0, 1, 0, -1, 0, -1, 0, 1]), (-8, [0, 1, 0, 1, 0, -1, 0, -1])]
  xs : Xs K
theorem txt_mk {K : PySem.W.Frag} {h : Heap} {mg : Str → Option Value} (F : Facts K) (X : K.In h) (g : h.Ns mainGlobals mg) : ∃ G : Gd, G.K = K ∧ Nonempty (Txt G mg) := by
  obtain ⟨f_power, d_power, F_power, g_power⟩ := F.d_power.get X g
  obtain ⟨f_primes_in, d_primes_in, F_primes_in, g_primes_in⟩ := F.d_primes_in.get X g
  obtain ⟨f_parted, d_parted, F_parted, g_parted⟩ := F.d_parted.get X g
  obtain ⟨f_often_in, d_often_in, F_often_in, g_often_in⟩ := F.d_often_in.get X g
  obtain ⟨f_is_whole, d_is_whole, F_is_whole, g_is_whole⟩ := F.d_is_whole.get X g
  obtain ⟨f_fraction, d_fraction, F_fraction, g_fraction⟩ := F.d_fraction.get X g
  obtain ⟨f_sum_of, d_sum_of, F_sum_of, g_sum_of⟩ := F.d_sum_of.get X g
  obtain ⟨f_times_of, d_times_of, F_times_of, g_times_of⟩ := F.d_times_of.get X g
  obtain ⟨f_told_whole, d_told_whole, F_told_whole, g_told_whole⟩ := F.d_told_whole.get X g
  obtain ⟨f_discriminant_of, d_discriminant_of, F_discriminant_of, g_discriminant_of⟩ := F.d_discriminant_of.get X g
  obtain ⟨f_discriminant, d_discriminant, F_discriminant, g_discriminant⟩ := F.d_discriminant.get X g
  obtain ⟨f_squares_row, d_squares_row, F_squares_row, g_squares_row⟩ := F.d_squares_row.get X g
  obtain ⟨f_periods_of, d_periods_of, F_periods_of, g_periods_of⟩ := F.d_periods_of.get X g
  obtain ⟨f_power_sums, d_power_sums, F_power_sums, g_power_sums⟩ := F.d_power_sums.get X g
  obtain ⟨f_bernoulli_of, d_bernoulli_of, F_bernoulli_of, g_bernoulli_of⟩ := F.d_bernoulli_of.get X g
  obtain ⟨f_bernoulli_number, d_bernoulli_number, F_bernoulli_number, g_bernoulli_number⟩ := F.d_bernoulli_number.get X g
  obtain ⟨f__law_pool, d__law_pool, F__law_pool, g__law_pool⟩ := F.d__law_pool.get X g
  obtain ⟨f__law_take, d__law_take, F__law_take, g__law_take⟩ := F.d__law_take.get X g
  obtain ⟨f__law_pick, d__law_pick, F__law_pick, g__law_pick⟩ := F.d__law_pick.get X g
  obtain ⟨f__law_is_integer, d__law_is_integer, F__law_is_integer, g__law_is_integer⟩ := F.d__law_is_integer.get X g
  obtain ⟨f__law_same, d__law_same, F__law_same, g__law_same⟩ := F.d__law_same.get X g
  obtain ⟨f__law_power, d__law_power, F__law_power, g__law_power⟩ := F.d__law_power.get X g
  obtain ⟨f__law_common, d__law_common, F__law_common, g__law_common⟩ := F.d__law_common.get X g
  obtain ⟨f__law_root, d__law_root, F__law_root, g__law_root⟩ := F.d__law_root.get X g
  obtain ⟨f__law_fraction_of, d__law_fraction_of, F__law_fraction_of, g__law_fraction_of⟩ := F.d__law_fraction_of.get X g
  obtain ⟨f__law_plus, d__law_plus, F__law_plus, g__law_plus⟩ := F.d__law_plus.get X g
  obtain ⟨f__law_times, d__law_times, F__law_times, g__law_times⟩ := F.d__law_times.get X g
  obtain ⟨f__law_often, d__law_often, F__law_often, g__law_often⟩ := F.d__law_often.get X g
  obtain ⟨f__law_power_modulo, d__law_power_modulo, F__law_power_modulo, g__law_power_modulo⟩ := F.d__law_power_modulo.get X g
  obtain ⟨f__law_sign, d__law_sign, F__law_sign, g__law_sign⟩ := F.d__law_sign.get X g
  obtain ⟨f__law_primes_in, d__law_primes_in, F__law_primes_in, g__law_primes_in⟩ := F.d__law_primes_in.get X g
  obtain ⟨f__law_discriminant, d__law_discriminant, F__law_discriminant, g__law_discriminant⟩ := F.d__law_discriminant.get X g
  obtain ⟨f__law_character, d__law_character, F__law_character, g__law_character⟩ := F.d__law_character.get X g
  obtain ⟨f__law_polynomial, d__law_polynomial, F__law_polynomial, g__law_polynomial⟩ := F.d__law_polynomial.get X g
  obtain ⟨f__law_bernoulli, d__law_bernoulli, F__law_bernoulli, g__law_bernoulli⟩ := F.d__law_bernoulli.get X g
  obtain ⟨f__law_class_number, d__law_class_number, F__law_class_number, g__law_class_number⟩ := F.d__law_class_number.get X g
  obtain ⟨f__law_fault, d__law_fault, F__law_fault, g__law_fault⟩ := F.d__law_fault.get X g
  obtain ⟨f__law_refuses, d__law_refuses, F__law_refuses, g__law_refuses⟩ := F.d__law_refuses.get X g
  obtain ⟨f__law_known, d__law_known, F__law_known, g__law_known⟩ := F.d__law_known.get X g
  obtain ⟨f_law, d_law, F_law, g_law⟩ := F.d_law.get X g
  obtain ⟨t_MOST_GIVEN, v_MOST_GIVEN⟩ := F.v_MOST_GIVEN.get X g
  obtain ⟨t_MOST_PERIOD, v_MOST_PERIOD⟩ := F.v_MOST_PERIOD.get X g
  obtain ⟨t_MOST_WHOLE, v_MOST_WHOLE⟩ := F.v_MOST_WHOLE.get X g
  obtain ⟨C_BadNumber, C_FormError, C_TooGreat, e_BadNumber, e_FormError, e_TooGreat, s_BadNumber_BadNumber, s_BadNumber_FormError, s_BadNumber_TooGreat, s_FormError_BadNumber, s_FormError_FormError, s_FormError_TooGreat, s_TooGreat_BadNumber, s_TooGreat_FormError, s_TooGreat_TooGreat⟩ := F.xs
  let G : Gd := ⟨K, fun s => if s = "BadNumber" then C_BadNumber else if s = "FormError" then C_FormError else if s = "TooGreat" then C_TooGreat else 0⟩
  have ca_BadNumber : G.ca "BadNumber" = C_BadNumber := by simp [G]
  have ca_FormError : G.ca "FormError" = C_FormError := by simp [G]
  have ca_TooGreat : G.ca "TooGreat" = C_TooGreat := by simp [G]
  exact ⟨G, rfl, ⟨{ f_power := f_power, d_power := d_power, F_power := F_power, g_power := g_power, f_primes_in := f_primes_in, d_primes_in := d_primes_in, F_primes_in := F_primes_in, g_primes_in := g_primes_in, f_parted := f_parted, d_parted := d_parted, F_parted := F_parted, g_parted := g_parted, f_often_in := f_often_in, d_often_in := d_often_in, F_often_in := F_often_in, g_often_in := g_often_in, f_is_whole := f_is_whole, d_is_whole := d_is_whole, F_is_whole := F_is_whole, g_is_whole := g_is_whole, f_fraction := f_fraction, d_fraction := d_fraction, F_fraction := F_fraction, g_fraction := g_fraction, f_sum_of := f_sum_of, d_sum_of := d_sum_of, F_sum_of := F_sum_of, g_sum_of := g_sum_of, f_times_of := f_times_of, d_times_of := d_times_of, F_times_of := F_times_of, g_times_of := g_times_of, f_told_whole := f_told_whole, d_told_whole := d_told_whole, F_told_whole := F_told_whole, g_told_whole := g_told_whole, f_discriminant_of := f_discriminant_of, d_discriminant_of := d_discriminant_of, F_discriminant_of := F_discriminant_of, g_discriminant_of := g_discriminant_of, f_discriminant := f_discriminant, d_discriminant := d_discriminant, F_discriminant := F_discriminant, g_discriminant := g_discriminant, f_squares_row := f_squares_row, d_squares_row := d_squares_row, F_squares_row := F_squares_row, g_squares_row := g_squares_row, f_periods_of := f_periods_of, d_periods_of := d_periods_of, F_periods_of := F_periods_of, g_periods_of := g_periods_of, f_power_sums := f_power_sums, d_power_sums := d_power_sums, F_power_sums := F_power_sums, g_power_sums := g_power_sums, f_bernoulli_of := f_bernoulli_of, d_bernoulli_of := d_bernoulli_of, F_bernoulli_of := F_bernoulli_of, g_bernoulli_of := g_bernoulli_of, f_bernoulli_number := f_bernoulli_number, d_bernoulli_number := d_bernoulli_number, F_bernoulli_number := F_bernoulli_number, g_bernoulli_number := g_bernoulli_number, f__law_pool := f__law_pool, d__law_pool := d__law_pool, F__law_pool := F__law_pool, g__law_pool := g__law_pool, f__law_take := f__law_take, d__law_take := d__law_take, F__law_take := F__law_take, g__law_take := g__law_take, f__law_pick := f__law_pick, d__law_pick := d__law_pick, F__law_pick := F__law_pick, g__law_pick := g__law_pick, f__law_is_integer := f__law_is_integer, d__law_is_integer := d__law_is_integer, F__law_is_integer := F__law_is_integer, g__law_is_integer := g__law_is_integer, f__law_same := f__law_same, d__law_same := d__law_same, F__law_same := F__law_same, g__law_same := g__law_same, f__law_power := f__law_power, d__law_power := d__law_power, F__law_power := F__law_power, g__law_power := g__law_power, f__law_common := f__law_common, d__law_common := d__law_common, F__law_common := F__law_common, g__law_common := g__law_common, f__law_root := f__law_root, d__law_root := d__law_root, F__law_root := F__law_root, g__law_root := g__law_root, f__law_fraction_of := f__law_fraction_of, d__law_fraction_of := d__law_fraction_of, F__law_fraction_of := F__law_fraction_of, g__law_fraction_of := g__law_fraction_of, f__law_plus := f__law_plus, d__law_plus := d__law_plus, F__law_plus := F__law_plus, g__law_plus := g__law_plus, f__law_times := f__law_times, d__law_times := d__law_times, F__law_times := F__law_times, g__law_times := g__law_times, f__law_often := f__law_often, d__law_often := d__law_often, F__law_often := F__law_often, g__law_often := g__law_often, f__law_power_modulo := f__law_power_modulo, d__law_power_modulo := d__law_power_modulo, F__law_power_modulo := F__law_power_modulo, g__law_power_modulo := g__law_power_modulo, f__law_sign := f__law_sign, d__law_sign := d__law_sign, F__law_sign := F__law_sign, g__law_sign := g__law_sign, f__law_primes_in := f__law_primes_in, d__law_primes_in := d__law_primes_in, F__law_primes_in := F__law_primes_in, g__law_primes_in := g__law_primes_in, f__law_discriminant := f__law_discriminant, d__law_discriminant := d__law_discriminant, F__law_discriminant := F__law_discriminant, g__law_discriminant := g__law_discriminant, f__law_character := f__law_character, d__law_character := d__law_character, F__law_character := F__law_character, g__law_character := g__law_character, f__law_polynomial := f__law_polynomial, d__law_polynomial := d__law_polynomial, F__law_polynomial := F__law_polynomial, g__law_polynomial := g__law_polynomial, f__law_bernoulli := f__law_bernoulli, d__law_bernoulli := d__law_bernoulli, F__law_bernoulli := F__law_bernoulli, g__law_bernoulli := g__law_bernoulli, f__law_class_number := f__law_class_number, d__law_class_number := d__law_class_number, F__law_class_number := F__law_class_number, g__law_class_number := g__law_class_number, f__law_fault := f__law_fault, d__law_fault := d__law_fault, F__law_fault := F__law_fault, g__law_fault := g__law_fault, f__law_refuses := f__law_refuses, d__law_refuses := d__law_refuses, F__law_refuses := F__law_refuses, g__law_refuses := g__law_refuses, f__law_known := f__law_known, d__law_known := d__law_known, F__law_known := F__law_known, g__law_known := g__law_known, f_law := f_law, d_law := d_law, F_law := F_law, g_law := g_law, n_abs := F.n_abs.get X g, n_all := F.n_all.get X g, n_bool := F.n_bool.get X g, n_enumerate := F.n_enumerate.get X g, n_int := F.n_int.get X g, n_isinstance := F.n_isinstance.get X g, n_len := F.n_len.get X g, n_list := F.n_list.get X g, n_range := F.n_range.get X g, n_str := F.n_str.get X g, n_tuple := F.n_tuple.get X g, i_comb := F.i_comb.get X g, i_gcd := F.i_gcd.get X g, t_MOST_GIVEN := t_MOST_GIVEN, v_MOST_GIVEN := v_MOST_GIVEN, t_MOST_PERIOD := t_MOST_PERIOD, v_MOST_PERIOD := v_MOST_PERIOD, t_MOST_WHOLE := t_MOST_WHOLE, v_MOST_WHOLE := v_MOST_WHOLE, v_NUMBERS := KtT.get (G := G) F.v_NUMBERS X g, v_EIGHTHS := KdN.get (G := G) F.v_EIGHTHS X g, C_BadNumber := C_BadNumber, g_BadNumber := PySem.W.mg_of X g e_BadNumber.at_, a_BadNumber := ca_BadNumber, q_BadNumber := e_BadNumber.q, k_BadNumber := e_BadNumber.k, b_BadNumber := e_BadNumber.b, t_BadNumber := e_BadNumber.t, e_BadNumber := fun cn b h => by unfold is_BadNumber at h; split at h <;> cases h <;> simp only [ca_BadNumber, ca_FormError, ca_TooGreat] <;> first | exact e_BadNumber.exm s_BadNumber_BadNumber | exact e_BadNumber.exm s_FormError_BadNumber | exact e_BadNumber.exm s_TooGreat_BadNumber, s_BadNumber := fun cn b h => by unfold is_BadNumber at h; split at h <;> cases h <;> simp only [ca_BadNumber, ca_FormError, ca_TooGreat] <;> first | exact e_BadNumber.kit s_BadNumber_BadNumber s_BadNumber_BadNumber | exact e_BadNumber.kit s_FormError_BadNumber s_BadNumber_BadNumber | exact e_BadNumber.kit s_TooGreat_BadNumber s_BadNumber_BadNumber, C_FormError := C_FormError, g_FormError := PySem.W.mg_of X g e_FormError.at_, a_FormError := ca_FormError, e_FormError := fun cn b h => by unfold is_FormError at h; split at h <;> cases h <;> simp only [ca_BadNumber, ca_FormError, ca_TooGreat] <;> first | exact e_FormError.exm s_BadNumber_FormError | exact e_FormError.exm s_FormError_FormError | exact e_FormError.exm s_TooGreat_FormError, s_FormError := fun cn b h => by unfold is_FormError at h; split at h <;> cases h <;> simp only [ca_BadNumber, ca_FormError, ca_TooGreat] <;> first | exact e_FormError.kit s_BadNumber_FormError s_FormError_FormError | exact e_FormError.kit s_FormError_FormError s_FormError_FormError | exact e_FormError.kit s_TooGreat_FormError s_FormError_FormError, C_TooGreat := C_TooGreat, g_TooGreat := PySem.W.mg_of X g e_TooGreat.at_, a_TooGreat := ca_TooGreat, q_TooGreat := e_TooGreat.q, k_TooGreat := e_TooGreat.k, b_TooGreat := e_TooGreat.b, t_TooGreat := e_TooGreat.t, e_TooGreat := fun cn b h => by unfold is_TooGreat at h; split at h <;> cases h <;> simp only [ca_BadNumber, ca_FormError, ca_TooGreat] <;> first | exact e_TooGreat.exm s_BadNumber_TooGreat | exact e_TooGreat.exm s_FormError_TooGreat | exact e_TooGreat.exm s_TooGreat_TooGreat, s_TooGreat := fun cn b h => by unfold is_TooGreat at h; split at h <;> cases h <;> simp only [ca_BadNumber, ca_FormError, ca_TooGreat] <;> first | exact e_TooGreat.kit s_BadNumber_TooGreat s_TooGreat_TooGreat | exact e_TooGreat.kit s_FormError_TooGreat s_TooGreat_TooGreat | exact e_TooGreat.kit s_TooGreat_TooGreat s_TooGreat_TooGreat, xc := fun cn h => by simp only [exNames, List.mem_cons, List.not_mem_nil, or_false] at h; rcases h with rfl | rfl | rfl <;> simp only [ca_BadNumber, ca_FormError, ca_TooGreat] <;> first | exact e_BadNumber.x | exact e_FormError.x | exact e_TooGreat.x }⟩⟩
theorem fin {P : Program} {w : World} {K : PySem.W.Frag} {mg : Str → Option Value} {fa : Addr} {h : Heap} (F : Facts K) (hl : ∀ ns : List Int, ns.length ≤ 63 → ∃ M, m_law (startD N_law [.scr ns]) [] = .rt (.bl true) M) (X : K.In h) (g : h.Ns mainGlobals mg) (hf : mg "law" = some (.ref fa)) :
    ∃ fd : FuncData, (∀ (s : Shared) (u : Value), BindsTo s fd ⟨[u], []⟩ [("script", u)]) ∧ ∀ base : Heap, K.In base → base.Ns mainGlobals mg → FnOk P w K mg base CX0 11 fa fd ["script"] (spLaw K) := by
  obtain ⟨G, rfl, ⟨T⟩⟩ := txt_mk F X g
  exact law_end (base := fun _ => True) X g T.F_law T.g_law hf (fun _ _ _ _ _ _ _ => rfl) fun base _ _ => ok_law T hl
end K45

open PySem PySem.W PyProof.Rows
set_option maxHeartbeats 0 in
theorem PySem.Challenge.cw_generaproved_k45_whole_discriminants_holds : PySem.Challenge.rw_generaproved_k45_whole_discriminants.Holds := by
  w_on; o_law; k_head; (case hw => w_witness2)
  k_fill
  refine L2.walk_ofK (l := PySem.Challenge.rw_generaproved_k45_whole_discriminants) (n := 63) (k := 11) (x := "script") (CX := L2.CX0) (sp := DM.spLaw) rfl (by decide) rfl ⟨rfl, by decide, by decide⟩ (fun w h Y => PySem.W.kIn_of Y) ?F (fun _ _ a ns hl _ hS => ⟨a, ns, rfl, hS, hl, fun _ => rfl⟩) (fun _ _ _ _ h => h)
  case F =>
    intro w mg fa h KX G hmg
    refine' K45.fin ⟨?d_power, ?d_primes_in, ?d_parted, ?d_often_in, ?d_is_whole, ?d_fraction, ?d_sum_of, ?d_times_of, ?d_told_whole, ?d_discriminant_of, ?d_discriminant, ?d_squares_row, ?d_periods_of, ?d_power_sums, ?d_bernoulli_of, ?d_bernoulli_number, ?d__law_pool, ?d__law_take, ?d__law_pick, ?d__law_is_integer, ?d__law_same, ?d__law_power, ?d__law_common, ?d__law_root, ?d__law_fraction_of, ?d__law_plus, ?d__law_times, ?d__law_often, ?d__law_power_modulo, ?d__law_sign, ?d__law_primes_in, ?d__law_discriminant, ?d__law_character, ?d__law_polynomial, ?d__law_bernoulli, ?d__law_class_number, ?d__law_fault, ?d__law_refuses, ?d__law_known, ?d_law, ?n_abs, ?n_all, ?n_bool, ?n_enumerate, ?n_int, ?n_isinstance, ?n_len, ?n_list, ?n_range, ?n_str, ?n_tuple, ?i_comb, ?i_gcd, ?v_MOST_GIVEN, ?v_MOST_PERIOD, ?v_MOST_WHOLE, ?v_NUMBERS, ?v_EIGHTHS, ?xs⟩ K45.law_true KX G hmg
    (case d_power => refine' DM.Def1.mk1 KX ?a ?b ?c ?d; (case a => k_is); (case b => k_is); (case c => k_is); (case d => k_is))
    (case d_primes_in => refine' DM.Def1.mk1 KX ?a ?b ?c ?d; (case a => k_is); (case b => k_is); (case c => k_is); (case d => k_is))
    (case d_parted => refine' DM.Def1.mk1 KX ?a ?b ?c ?d; (case a => k_is); (case b => k_is); (case c => k_is); (case d => k_is))
    (case d_often_in => refine' DM.Def1.mk1 KX ?a ?b ?c ?d; (case a => k_is); (case b => k_is); (case c => k_is); (case d => k_is))
    (case d_is_whole => refine' DM.Def1.mk1 KX ?a ?b ?c ?d; (case a => k_is); (case b => k_is); (case c => k_is); (case d => k_is))
    (case d_fraction => refine' DM.Def1.mk1 KX ?a ?b ?c ?d; (case a => k_is); (case b => k_is); (case c => k_is); (case d => k_is))
    (case d_sum_of => refine' DM.Def1.mk1 KX ?a ?b ?c ?d; (case a => k_is); (case b => k_is); (case c => k_is); (case d => k_is))
    (case d_times_of => refine' DM.Def1.mk1 KX ?a ?b ?c ?d; (case a => k_is); (case b => k_is); (case c => k_is); (case d => k_is))
    (case d_told_whole => refine' DM.Def1.mk1 KX ?a ?b ?c ?d; (case a => k_is); (case b => k_is); (case c => k_is); (case d => k_is))
    (case d_discriminant_of => refine' DM.Def1.mk1 KX ?a ?b ?c ?d; (case a => k_is); (case b => k_is); (case c => k_is); (case d => k_is))
    (case d_discriminant => refine' DM.Def1.mk1 KX ?a ?b ?c ?d; (case a => k_is); (case b => k_is); (case c => k_is); (case d => k_is))
    (case d_squares_row => refine' DM.Def1.mk1 KX ?a ?b ?c ?d; (case a => k_is); (case b => k_is); (case c => k_is); (case d => k_is))
    (case d_periods_of => refine' DM.Def1.mk1 KX ?a ?b ?c ?d; (case a => k_is); (case b => k_is); (case c => k_is); (case d => k_is))
    (case d_power_sums => refine' DM.Def1.mk1 KX ?a ?b ?c ?d; (case a => k_is); (case b => k_is); (case c => k_is); (case d => k_is))
    (case d_bernoulli_of => refine' DM.Def1.mk1 KX ?a ?b ?c ?d; (case a => k_is); (case b => k_is); (case c => k_is); (case d => k_is))
    (case d_bernoulli_number => refine' DM.Def1.mk1 KX ?a ?b ?c ?d; (case a => k_is); (case b => k_is); (case c => k_is); (case d => k_is))
    (case d__law_pool => refine' DM.Def1.mk1 KX ?a ?b ?c ?d; (case a => k_is); (case b => k_is); (case c => k_is); (case d => k_is))
    (case d__law_take => refine' DM.Def1.mk1 KX ?a ?b ?c ?d; (case a => k_is); (case b => k_is); (case c => k_is); (case d => k_is))
    (case d__law_pick => refine' DM.Def1.mk1 KX ?a ?b ?c ?d; (case a => k_is); (case b => k_is); (case c => k_is); (case d => k_is))
    (case d__law_is_integer => refine' DM.Def1.mk1 KX ?a ?b ?c ?d; (case a => k_is); (case b => k_is); (case c => k_is); (case d => k_is))
    (case d__law_same => refine' DM.Def1.mk1 KX ?a ?b ?c ?d; (case a => k_is); (case b => k_is); (case c => k_is); (case d => k_is))
    (case d__law_power => refine' DM.Def1.mk1 KX ?a ?b ?c ?d; (case a => k_is); (case b => k_is); (case c => k_is); (case d => k_is))
    (case d__law_common => refine' DM.Def1.mk1 KX ?a ?b ?c ?d; (case a => k_is); (case b => k_is); (case c => k_is); (case d => k_is))
    (case d__law_root => refine' DM.Def1.mk1 KX ?a ?b ?c ?d; (case a => k_is); (case b => k_is); (case c => k_is); (case d => k_is))
    (case d__law_fraction_of => refine' DM.Def1.mk1 KX ?a ?b ?c ?d; (case a => k_is); (case b => k_is); (case c => k_is); (case d => k_is))
    (case d__law_plus => refine' DM.Def1.mk1 KX ?a ?b ?c ?d; (case a => k_is); (case b => k_is); (case c => k_is); (case d => k_is))
    (case d__law_times => refine' DM.Def1.mk1 KX ?a ?b ?c ?d; (case a => k_is); (case b => k_is); (case c => k_is); (case d => k_is))
    (case d__law_often => refine' DM.Def1.mk1 KX ?a ?b ?c ?d; (case a => k_is); (case b => k_is); (case c => k_is); (case d => k_is))
    (case d__law_power_modulo => refine' DM.Def1.mk1 KX ?a ?b ?c ?d; (case a => k_is); (case b => k_is); (case c => k_is); (case d => k_is))
    (case d__law_sign => refine' DM.Def1.mk1 KX ?a ?b ?c ?d; (case a => k_is); (case b => k_is); (case c => k_is); (case d => k_is))
    (case d__law_primes_in => refine' DM.Def1.mk1 KX ?a ?b ?c ?d; (case a => k_is); (case b => k_is); (case c => k_is); (case d => k_is))
    (case d__law_discriminant => refine' DM.Def1.mk1 KX ?a ?b ?c ?d; (case a => k_is); (case b => k_is); (case c => k_is); (case d => k_is))
    (case d__law_character => refine' DM.Def1.mk1 KX ?a ?b ?c ?d; (case a => k_is); (case b => k_is); (case c => k_is); (case d => k_is))
    (case d__law_polynomial => refine' DM.Def1.mk1 KX ?a ?b ?c ?d; (case a => k_is); (case b => k_is); (case c => k_is); (case d => k_is))
    (case d__law_bernoulli => refine' DM.Def1.mk1 KX ?a ?b ?c ?d; (case a => k_is); (case b => k_is); (case c => k_is); (case d => k_is))
    (case d__law_class_number => refine' DM.Def1.mk1 KX ?a ?b ?c ?d; (case a => k_is); (case b => k_is); (case c => k_is); (case d => k_is))
    (case d__law_fault => refine' DM.Def1.mk1 KX ?a ?b ?c ?d; (case a => k_is); (case b => k_is); (case c => k_is); (case d => k_is))
    (case d__law_refuses => refine' DM.Def1.mk1 KX ?a ?b ?c ?d; (case a => k_is); (case b => k_is); (case c => k_is); (case d => k_is))
    (case d__law_known => refine' DM.Def1.mk1 KX ?a ?b ?c ?d; (case a => k_is); (case b => k_is); (case c => k_is); (case d => k_is))
    (case d_law => refine' DM.Def1.mk1 KX ?a ?b ?c ?d; (case a => k_is); (case b => k_is); (case c => k_is); (case d => k_is))
    (case n_abs => refine' DM.No1.mk1 KX ?a; (case a => k_is))
    (case n_all => refine' DM.No1.mk1 KX ?a; (case a => k_is))
    (case n_bool => refine' DM.No1.mk1 KX ?a; (case a => k_is))
    (case n_enumerate => refine' DM.No1.mk1 KX ?a; (case a => k_is))
    (case n_int => refine' DM.No1.mk1 KX ?a; (case a => k_is))
    (case n_isinstance => refine' DM.No1.mk1 KX ?a; (case a => k_is))
    (case n_len => refine' DM.No1.mk1 KX ?a; (case a => k_is))
    (case n_list => refine' DM.No1.mk1 KX ?a; (case a => k_is))
    (case n_range => refine' DM.No1.mk1 KX ?a; (case a => k_is))
    (case n_str => refine' DM.No1.mk1 KX ?a; (case a => k_is))
    (case n_tuple => refine' DM.No1.mk1 KX ?a; (case a => k_is))
    (case i_comb => refine' DM.Blt1.mk1 KX ?a; (case a => k_is))
    (case i_gcd => refine' DM.Blt1.mk1 KX ?a; (case a => k_is))
    (case v_MOST_GIVEN => refine' DM.Int1.mk1 KX ?a; (case a => k_is))
    (case v_MOST_PERIOD => refine' DM.Int1.mk1 KX ?a; (case a => k_is))
    (case v_MOST_WHOLE => refine' DM.Int1.mk1 KX ?a; (case a => k_is))
    (case v_NUMBERS => refine' DM.KtT.mk1 KX ?a ?b ?c ?d ?e; (case a => k_is); (case b => k_is); (case c => exact rfl); (case d => exact rfl); (case e => refine' (.cons ?_ (.cons ?_ (.cons ?_ (.cons ?_ (.cons ?_ (.cons ?_ (.cons ?_ (.cons ?_ (.cons ?_ .nil))))))))) <;> (refine' DM.KtI.mk1 KX ?l ?m ?n; (case l => k_is); (case m => exact rfl); (case n => exact rfl))))
    (case v_EIGHTHS => refine' DM.KdN.mk1 KX ?a ?b ?c ?d ?e; (case a => k_is); (case b => k_is); (case c => exact rfl); (case d => exact rfl); (case e => refine' (.cons ⟨rfl, ?_⟩ (.cons ⟨rfl, ?_⟩ (.cons ⟨rfl, ?_⟩ (.cons ⟨rfl, ?_⟩ .nil)))) <;> (refine' DM.KtI.mk1 KX ?l ?m ?n; (case l => k_is); (case m => exact rfl); (case n => exact rfl))))
    (case xs => refine' K45.Xs.mk1 KX ?e_BadNumber ?e_FormError ?e_TooGreat ?s_BadNumber_BadNumber ?s_BadNumber_FormError ?s_BadNumber_TooGreat ?s_FormError_BadNumber ?s_FormError_FormError ?s_FormError_TooGreat ?s_TooGreat_BadNumber ?s_TooGreat_FormError ?s_TooGreat_TooGreat; (case e_BadNumber => refine' DM.Exc1.mk1 KX ?x0 ?x1 ?x2 ?x3 ?x4 ?x5 ?x6 ?x7 ?x8 ?x9 ?x10 ?x11; (case x0 => k_is); (case x1 => k_exc); (case x2 => k_is); (case x3 => k_is); (case x4 => k_is); (case x5 => k_is); (case x6 => k_is); (case x7 => k_is); (case x8 => k_is); (case x9 => k_is); (case x10 => k_is); (case x11 => k_is)); (case e_FormError => refine' DM.Exc1.mk1 KX ?x0 ?x1 ?x2 ?x3 ?x4 ?x5 ?x6 ?x7 ?x8 ?x9 ?x10 ?x11; (case x0 => k_is); (case x1 => k_exc); (case x2 => k_is); (case x3 => k_is); (case x4 => k_is); (case x5 => k_is); (case x6 => k_is); (case x7 => k_is); (case x8 => k_is); (case x9 => k_is); (case x10 => k_is); (case x11 => k_is)); (case e_TooGreat => refine' DM.Exc1.mk1 KX ?x0 ?x1 ?x2 ?x3 ?x4 ?x5 ?x6 ?x7 ?x8 ?x9 ?x10 ?x11; (case x0 => k_is); (case x1 => k_exc); (case x2 => k_is); (case x3 => k_is); (case x4 => k_is); (case x5 => k_is); (case x6 => k_is); (case x7 => k_is); (case x8 => k_is); (case x9 => k_is); (case x10 => k_is); (case x11 => k_is)); (case s_BadNumber_BadNumber => k_is); (case s_BadNumber_FormError => k_is); (case s_BadNumber_TooGreat => k_is); (case s_FormError_BadNumber => k_is); (case s_FormError_FormError => k_is); (case s_FormError_TooGreat => k_is); (case s_TooGreat_BadNumber => k_is); (case s_TooGreat_FormError => k_is); (case s_TooGreat_TooGreat => k_is))

