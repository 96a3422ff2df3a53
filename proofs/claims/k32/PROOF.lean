import PyProof.Rows.All
import Wide.All
import OpenK.AllK
import Wide.FinOn
import HandS.ForMost
import HandS.Walk
import HandS.Deep
import HandS.IsInst
import HandS.Exc
import HandS.ExcOwn
import HandS.TryOnly
import HandS.WordsExc
import KE.KDictKeyed
import HandS.Lambda
import HandS.EndTab
import HandS.TupAny
import HandS.Text
import HandS.Conv
import KE.SortData
import KE.DataMinMax
import KE.DataCmp
import KE.DataFind
import HandS.Style
import HandS.Words
import HandS.Zip
import HandS.Ends
import KE.BitLaws
import KE.OsArith
import KE.GoesMore
import KE.GoesEnum
import KE.GoesZip
import HandS.NoneIn
import HandS.Star
import HandS.Replace
import PyProof.ListStr
import PyProof.StrBlock2
import HandS.TupMul
import HandS.Sort
import KE.KDictWalk
import HandS.More
import KE.KDictDisplayH
import KE.KDictSum
import HandS.Small
import PyProof.NeKinds
import HandS.Strs
import HandS.SetFor
import HandS.Set
import HandS.Rev
import KE.KDictPairs
import KE.KDictZip
import HandS.DictEq
import PySem.Challenge.RW_turnfriends_k32_known_ring_of_five
set_option Elab.async false
set_option linter.all false
set_option maxRecDepth 100000
set_option maxHeartbeats 2000000
namespace Ev
open PySem PySem.Spec PyProof.Rows L2

/-! ### data, as trees -/
inductive D where
  | non | bl (b : Bool) | int (i : Int) | str (x : Str)
  | tup (xs : List D) | lst (xs : List D) | dic (ks vs : List D)
  | obj (c : Str) (ns : List Str) (fs : List D)
  | row
  /-- an object as it stands -/
  | cell (a : Addr) (o : HO)
  /-- a def of the module; a lambda of the law -/
  | fn (x : Str) | lam (k : Nat)

mutual
def D.py : D → PyData
  | .non => .none
  | .bl b => .bool b
  | .int i => .int i
  | .str x => .str x
  | .tup xs => .tuple (D.pys xs)
  | .lst xs => .list (D.pys xs)
  | .dic _ _ => .none
  | .obj _ _ _ => .none
  | .row => .none
  | .cell _ _ => .none
  | .fn _ => .none
  | .lam _ => .none
def D.pys : List D → List PyData
  | [] => []
  | d :: ds => d.py :: D.pys ds
end
/-! none, bools, ints, texts, lists, tuples of such -/
mutual
def D.plain : D → Bool
  | .non => true
  | .bl _ => true
  | .int _ => true
  | .str _ => true
  | .tup xs => D.plains xs
  | .lst xs => D.plains xs
  | .dic _ _ => false
  | .obj _ _ _ => false
  | .row => false
  | .cell _ _ => false
  | .fn _ => false
  | .lam _ => false
def D.plains : List D → Bool
  | [] => true
  | d :: ds => d.plain && D.plains ds
end
/-! nothing that may be changed stands within -/
mutual
def D.pure : D → Bool
  | .non => true
  | .bl _ => true
  | .int _ => true
  | .str _ => true
  | .tup xs => D.pures xs
  | .lst _ => false
  | .dic _ _ => false
  | .obj _ _ fs => D.pures fs
  | .row => true
  | .cell _ _ => false
  | .fn _ => true
  | .lam _ => false
def D.pures : List D → Bool
  | [] => true
  | d :: ds => d.pure && D.pures ds
end

/-! ### keys of dicts -/
mutual
def nkD : D → NestedKey
  | .int i => .num i
  | .str z => .text z
  | .tup ds => .tup (nkDs ds)
  | .non => .none
  | .bl _ => .none
  | .lst _ => .none
  | .dic _ _ => .none
  | .obj _ _ _ => .none
  | .row => .none
  | .cell _ _ => .none
  | .fn _ => .none
  | .lam _ => .none
def nkDs : List D → List NestedKey
  | [] => []
  | d :: ds => nkD d :: nkDs ds
end
def D.akey : D → Bool
  | .int _ => true
  | .str _ => true
  | _ => false
mutual
def D.kok : Nat → D → Bool
  | _, .int _ => true
  | _, .str _ => true
  | n + 1, .tup ds => D.koks n ds
  | _, _ => false
def D.koks : Nat → List D → Bool
  | _, [] => true
  | n, d :: ds => D.kok n d && D.koks n ds
end
def D.tkey : D → Bool
  | .tup ds => D.kok 8 (.tup ds)
  | _ => false
/-- the entries as they stand -/
def Ents (w : World) : List D → List (V × V) → List DictEntry → Prop
  | [], kvs, es => kvs = [] ∧ es = []
  | k :: ks, kvs, es => ∃ x y r e r', kvs = (x, y) :: r ∧ es = e :: r' ∧ RelV x e.key ∧ RelV y e.val ∧ e.hash = (nkD k).hash w ∧ Ents w ks r r'
def DicAt (w : World) (a : Addr) (ks : List D) (kvs : List (V × V)) (o : HO) : Prop :=
  (ks = [] ∧ kvs = [] ∧ o = .dK []) ∨ (ks ≠ [] ∧ ∃ (es : Array DictEntry) (ep : Nat), o = .ext (fun h => h.DictRaw a es ep) ∧ (a == sysModules) = false ∧ Ents w ks kvs es.toList ∧ (ks.all D.akey = true ∨ ks.all D.tkey = true) ∧ (ks.map nkD).Nodup ∧ es.size ≤ sizeLine)

/-! ### what a script's row of draws is -/
structure DS where
  ns : List Int
  pos : Int
  seed : Int
  rest : Int

/-- what the proof is about: the written part, the module's names, where the row of draws stands -/
structure Par where
  K : PySem.W.Frag
  mg : Str → Option Value
  ra : Addr
  w : World
  T : List (Addr × Str)
  L : Nat → Addr → HO

/-- what may be changed -/
def Mt : HO → Prop
  | .lst _ => True
  | .dK _ => True
  | .dT _ => True
  | .set _ _ => True
  | .xd _ => True
  | .ext f => ∃ a es ep, f = fun h => h.DictRaw a es ep
  | _ => False

/-- no table of code objects -/
def Nt : HO → Prop
  | .tbl _ => False
  | _ => True
/-- the heap grows; only what is banned may change, and tables of code objects -/
structure Ext (B : Addr → Prop) (H H' : Hp) : Prop where
  keep : ∀ a o, H a = some o → ¬ (B a ∧ Mt o) → Nt o → H' a = some o
  dom : ∀ a, H a ≠ none → H' a ≠ none
theorem Ext.refl {B : Addr → Prop} {H : Hp} : Ext B H H := ⟨fun _ _ h _ _ => h, fun _ h => h⟩
theorem Ext.trans {B : Addr → Prop} {H H1 H2 : Hp} (a : Ext B H H1) (b : Ext B H1 H2) : Ext B H H2 :=
  ⟨fun c o h n t => b.keep c o (a.keep c o h n t) n t, fun c h => b.dom c (a.dom c h)⟩
theorem Ext.new {B : Addr → Prop} {H : Hp} {p : Addr} {o : HO} (h : H p = none) : Ext B H (upd H p o) :=
  ⟨fun a u e _ _ => by rw [upd_ne (ne_of_none e h)]; exact e, fun a e => by
    by_cases q : a = p
    · rw [q, upd_same]; exact fun z => nomatch z
    · rw [upd_ne q]; exact e⟩
theorem Ext.fresh {B : Addr → Prop} {H H' : Hp} (e : Ext B H H') {p : Addr} (h : H' p = none) : H p = none := by
  cases q : H p with
  | none => rfl
  | some o => exact absurd h (e.dom p (by rw [q]; exact fun z => nomatch z))

theorem dicAt_nt {w : World} {a : Addr} {ks : List D} {kvs : List (V × V)} {o : HO} (h : DicAt w a ks kvs o) : Nt o := by
  rcases h with ⟨_, _, rfl⟩ | ⟨_, es, ep, rfl, _⟩
  · exact trivial
  · exact trivial
/-! ### a datum stands in the heap, off what is banned -/
mutual
def Rep (P : Par) (H : Hp) (B : Addr → Prop) : D → V → Prop
  | .non, v => v = .non
  | .bl b, v => v = .bl b
  | .int i, v => v = .int i
  | .str x, v => v = .str x
  | .tup ds, v => ∃ a vs, v = .ref a ∧ SqT P.K H a vs ∧ Reps P H B ds vs
  | .lst ds, v => ∃ a vs, v = .ref a ∧ H a = some (.lst vs) ∧ ¬ B a ∧ Reps P H B ds vs
  | .dic ks vs, v => ∃ a o kvs, v = .ref a ∧ H a = some o ∧ DicAt P.w a ks kvs o ∧ ¬ B a ∧ Reps P H B ks (kvs.map fun q => q.1) ∧ Reps P H B vs (kvs.map fun q => q.2)
  | .obj c ns fs, v => ∃ a C dx fl, v = .ref a ∧ P.mg c = some (.ref C) ∧ H a = some (.ins C dx fl) ∧ fl.map (fun q => q.1) = ns ∧ Reps P H B fs (fl.map fun q => q.2)
  | .row, v => v = .ref P.ra
  | .cell a o, v => v = .ref a ∧ H a = some o ∧ ¬ B a ∧ Nt o
  | .fn x, v => ∃ f, v = .ref f ∧ P.mg x = some (.ref f)
  | .lam k, v => ∃ f, v = .ref f ∧ H f = some (P.L k f) ∧ ¬ B f ∧ Nt (P.L k f)
def Reps (P : Par) (H : Hp) (B : Addr → Prop) : List D → List V → Prop
  | [], vs => vs = []
  | d :: ds, vs => ∃ v r, vs = v :: r ∧ Rep P H B d v ∧ Reps P H B ds r
end

section
variable {P : Par} {H H' : Hp} {B B' : Addr → Prop}
theorem sqT_keep {K : PySem.W.Frag} {a : Addr} {vs : List V} (k : ∀ a o, H a = some o → ¬ Mt o → Nt o → H' a = some o) (h : SqT K H a vs) : SqT K H' a vs := by
  rcases h with (h | ⟨o, h⟩) | h
  · exact .inl (.inl (k _ _ h (fun z => z) trivial))
  · exact .inl (.inr ⟨o, k _ _ h (fun z => z) trivial⟩)
  · exact .inr h
mutual
theorem Rep.mono (k : ∀ a o, H a = some o → ¬ (B a ∧ Mt o) → Nt o → H' a = some o) (sub : ∀ a, B' a → B a) : ∀ (d : D) (v : V), Rep P H B d v → Rep P H' B' d v
  | .non, _, h => h
  | .bl _, _, h => h
  | .int _, _, h => h
  | .str _, _, h => h
  | .tup ds, v, h => by
    obtain ⟨a, vs, e, s, r⟩ := h
    exact ⟨a, vs, e, sqT_keep (fun a o q n t => k a o q (fun z => n z.2) t) s, Reps.mono k sub ds vs r⟩
  | .lst ds, v, h => by
    obtain ⟨a, vs, e, s, n, r⟩ := h
    exact ⟨a, vs, e, k a _ s (fun z => n z.1) trivial, fun z => n (sub a z), Reps.mono k sub ds vs r⟩
  | .dic ks ws, v, h => by
    obtain ⟨a, o, kvs, e, s, dd, n, r, r2⟩ := h
    exact ⟨a, o, kvs, e, k a _ s (fun z => n z.1) (dicAt_nt dd), dd, fun z => n (sub a z), Reps.mono k sub ks _ r, Reps.mono k sub ws _ r2⟩
  | .obj c ns fs, v, h => by
    obtain ⟨a, C, dx, fl, e, m, s, f, r⟩ := h
    exact ⟨a, C, dx, fl, e, m, k a _ s (fun z => z.2) trivial, f, Reps.mono k sub fs _ r⟩
  | .row, _, h => h
  | .cell a o, v, h => by
    obtain ⟨e, s, n, t⟩ := h
    exact ⟨e, k a _ s (fun z => n z.1) t, fun z => n (sub a z), t⟩
  | .fn _, _, h => h
  | .lam _, v, h => by
    obtain ⟨f, e, s, n, t⟩ := h
    exact ⟨f, e, k f _ s (fun z => n z.1) t, fun z => n (sub f z), t⟩
theorem Reps.mono (k : ∀ a o, H a = some o → ¬ (B a ∧ Mt o) → Nt o → H' a = some o) (sub : ∀ a, B' a → B a) : ∀ (ds : List D) (vs : List V), Reps P H B ds vs → Reps P H' B' ds vs
  | [], _, h => h
  | d :: ds, vs, h => by
    obtain ⟨v, r, e, h1, h2⟩ := h
    exact ⟨v, r, e, Rep.mono k sub d v h1, Reps.mono k sub ds r h2⟩
end
theorem Rep.ext {C : Addr → Prop} {d : D} {v : V} (h : Rep P H B d v) (e : Ext C H H') (s : ∀ a, C a → B a) : Rep P H' B d v :=
  Rep.mono (fun a o q n t => e.keep a o q (fun z => n ⟨s a z.1, z.2⟩) t) (fun _ z => z) d v h
theorem Reps.ext {C : Addr → Prop} {d : List D} {v : List V} (h : Reps P H B d v) (e : Ext C H H') (s : ∀ a, C a → B a) : Reps P H' B d v :=
  Reps.mono (fun a o q n t => e.keep a o q (fun z => n ⟨s a z.1, z.2⟩) t) (fun _ z => z) d v h
theorem Rep.less {d : D} {v : V} (h : Rep P H B d v) (s : ∀ a, B' a → B a) : Rep P H B' d v := Rep.mono (fun _ _ q _ _ => q) s d v h
theorem Reps.less {d : List D} {v : List V} (h : Reps P H B d v) (s : ∀ a, B' a → B a) : Reps P H B' d v := Reps.mono (fun _ _ q _ _ => q) s d v h
mutual
/-- a datum without lists stands off any ban -/
theorem Rep.any : ∀ (d : D) (v : V), d.pure = true → Rep P H B d v → Rep P H B' d v
  | .non, _, _, h => h
  | .bl _, _, _, h => h
  | .int _, _, _, h => h
  | .str _, _, _, h => h
  | .tup ds, v, p, h => by
    obtain ⟨a, vs, e, s, r⟩ := h
    exact ⟨a, vs, e, s, Reps.any ds vs (by simpa [D.pure] using p) r⟩
  | .lst _, _, p, _ => by simp [D.pure] at p
  | .dic _ _, _, p, _ => by simp [D.pure] at p
  | .obj c ns fs, v, p, h => by
    obtain ⟨a, C, dx, fl, e, m, s, f, r⟩ := h
    exact ⟨a, C, dx, fl, e, m, s, f, Reps.any fs _ (by simpa [D.pure] using p) r⟩
  | .row, _, _, h => h
  | .cell _ _, _, p, _ => by simp [D.pure] at p
  | .fn _, _, _, h => h
  | .lam _, _, p, _ => by simp [D.pure] at p
theorem Reps.any : ∀ (ds : List D) (vs : List V), D.pures ds = true → Reps P H B ds vs → Reps P H B' ds vs
  | [], _, _, h => h
  | d :: ds, vs, p, h => by
    obtain ⟨v, r, e, h1, h2⟩ := h
    have p' : d.pure = true ∧ D.pures ds = true := by simpa [D.pures] using p
    exact ⟨v, r, e, Rep.any d v p'.1 h1, Reps.any ds r p'.2 h2⟩
end
mutual
/-- a new place is in no datum -/
theorem Rep.fresh {p : Addr} (hp : H p = none) : ∀ (d : D) (v : V), Rep P H B d v → Rep P H (fun a => B a ∨ a = p) d v
  | .non, _, h => h
  | .bl _, _, h => h
  | .int _, _, h => h
  | .str _, _, h => h
  | .tup ds, v, h => by
    obtain ⟨a, vs, e, s, r⟩ := h
    exact ⟨a, vs, e, s, Reps.fresh hp ds vs r⟩
  | .lst ds, v, h => by
    obtain ⟨a, vs, e, s, n, r⟩ := h
    exact ⟨a, vs, e, s, (fun z => z.elim n fun q => by rw [q, hp] at s; cases s), Reps.fresh hp ds vs r⟩
  | .dic ks ws, v, h => by
    obtain ⟨a, o, kvs, e, s, dd, n, r, r2⟩ := h
    exact ⟨a, o, kvs, e, s, dd, (fun z => z.elim n fun q => by rw [q, hp] at s; cases s), Reps.fresh hp ks _ r, Reps.fresh hp ws _ r2⟩
  | .obj c ns fs, v, h => by
    obtain ⟨a, C, dx, fl, e, m, s, f, r⟩ := h
    exact ⟨a, C, dx, fl, e, m, s, f, Reps.fresh hp fs _ r⟩
  | .row, _, h => h
  | .cell a o, v, h => by
    obtain ⟨e, s, n, t⟩ := h
    exact ⟨e, s, (fun z => z.elim n fun q => by rw [q, hp] at s; cases s), t⟩
  | .fn _, _, h => h
  | .lam _, v, h => by
    obtain ⟨f, e, s, n, t⟩ := h
    exact ⟨f, e, s, (fun z => z.elim n fun q => by rw [q, hp] at s; cases s), t⟩
theorem Reps.fresh {p : Addr} (hp : H p = none) : ∀ (ds : List D) (vs : List V), Reps P H B ds vs → Reps P H (fun a => B a ∨ a = p) ds vs
  | [], _, h => h
  | d :: ds, vs, h => by
    obtain ⟨v, r, e, h1, h2⟩ := h
    exact ⟨v, r, e, Rep.fresh hp d v h1, Reps.fresh hp ds r h2⟩
end
theorem Reps.length : ∀ {ds : List D} {vs : List V}, Reps P H B ds vs → vs.length = ds.length
  | [], _, h => by rw [show _ = [] from h]; rfl
  | d :: ds, vs, h => by
    obtain ⟨v, r, e, _, h2⟩ := h
    rw [e, List.length_cons, List.length_cons, Reps.length h2]
theorem Reps.get : ∀ {ds : List D} {vs : List V} {i : Nat} {d : D}, Reps P H B ds vs → ds[i]? = some d → ∃ v, vs[i]? = some v ∧ Rep P H B d v
  | [], _, _, _, _, e => by simp at e
  | d :: ds, vs, 0, x, h, e => by
    obtain ⟨v, r, e1, h1, _⟩ := h
    simp at e
    subst e e1
    exact ⟨v, rfl, h1⟩
  | d :: ds, vs, i + 1, x, h, e => by
    obtain ⟨v, r, e1, _, h2⟩ := h
    subst e1
    obtain ⟨w, a, b⟩ := Reps.get (i := i) h2 (by simpa using e)
    exact ⟨w, by simpa using a, b⟩
theorem Reps.getV : ∀ {ds : List D} {vs : List V} {i : Nat} {v : V}, Reps P H B ds vs → vs[i]? = some v → ∃ d, ds[i]? = some d ∧ Rep P H B d v := fun {ds vs i v} h e => by
  have hl := h.length
  have hi : i < ds.length := by rw [← hl]; exact (List.getElem?_eq_some_iff.mp e).1
  obtain ⟨w, a, b⟩ := h.get (List.getElem?_eq_getElem hi)
  rw [e] at a
  cases a
  exact ⟨_, List.getElem?_eq_getElem hi, b⟩
theorem Reps.append : ∀ {ds es : List D} {vs ws : List V}, Reps P H B ds vs → Reps P H B es ws → Reps P H B (ds ++ es) (vs ++ ws)
  | [], _, _, _, h, g => by rw [show _ = [] from h]; exact g
  | d :: ds, es, vs, ws, h, g => by
    obtain ⟨v, r, e, h1, h2⟩ := h
    subst e
    exact ⟨v, r ++ ws, rfl, h1, Reps.append h2 g⟩
theorem Reps.cons {d : D} {ds : List D} {v : V} {vs : List V} (h : Rep P H B d v) (g : Reps P H B ds vs) : Reps P H B (d :: ds) (v :: vs) := ⟨v, vs, rfl, h, g⟩
theorem Reps.nil : Reps P H B [] [] := rfl
theorem Reps.one {d : D} {v : V} (h : Rep P H B d v) : Reps P H B [d] [v] := Reps.cons h Reps.nil
theorem Reps.uncons {d : D} {ds : List D} {vs : List V} (h : Reps P H B (d :: ds) vs) : ∃ v r, vs = v :: r ∧ Rep P H B d v ∧ Reps P H B ds r := h
theorem Reps.take : ∀ {ds : List D} {vs : List V} (n : Nat), Reps P H B ds vs → Reps P H B (ds.take n) (vs.take n)
  | _, _, 0, _ => rfl
  | [], _, n + 1, h => by rw [show _ = [] from h]; exact rfl
  | d :: ds, vs, n + 1, h => by
    obtain ⟨v, r, e, h1, h2⟩ := h
    subst e
    exact ⟨v, r.take n, rfl, h1, Reps.take n h2⟩
theorem Reps.drop : ∀ {ds : List D} {vs : List V} (n : Nat), Reps P H B ds vs → Reps P H B (ds.drop n) (vs.drop n)
  | _, _, 0, h => h
  | [], _, n + 1, h => by rw [show _ = [] from h]; exact rfl
  | d :: ds, vs, n + 1, h => by
    obtain ⟨v, r, e, h1, h2⟩ := h
    subst e
    exact Reps.drop n h2
theorem Reps.set : ∀ {ds : List D} {vs : List V} (i : Nat) {d : D} {v : V}, Reps P H B ds vs → Rep P H B d v → Reps P H B (ds.set i d) (vs.set i v)
  | [], _, _, _, _, h, _ => by rw [show _ = [] from h]; exact rfl
  | d :: ds, vs, 0, x, w, h, g => by
    obtain ⟨v, r, e, h1, h2⟩ := h
    subst e
    exact ⟨w, r, rfl, g, h2⟩
  | d :: ds, vs, i + 1, x, w, h, g => by
    obtain ⟨v, r, e, h1, h2⟩ := h
    subst e
    exact ⟨v, r.set i w, rfl, h1, Reps.set i h2 g⟩
theorem Reps.reverse : ∀ {ds : List D} {vs : List V}, Reps P H B ds vs → Reps P H B ds.reverse vs.reverse
  | [], _, h => by rw [show _ = [] from h]; exact rfl
  | d :: ds, vs, h => by
    obtain ⟨v, r, e, h1, h2⟩ := h
    subst e
    rw [List.reverse_cons, List.reverse_cons]
    exact Reps.append (Reps.reverse h2) (Reps.one h1)
theorem Reps.of_get : ∀ {ds : List D} {vs : List V}, ds.length = vs.length → (∀ (i : Nat) (d : D) (v : V), ds[i]? = some d → vs[i]? = some v → Rep P H B d v) → Reps P H B ds vs
  | [], [], _, _ => rfl
  | [], _ :: _, h, _ => by simp at h
  | _ :: _, [], h, _ => by simp at h
  | d :: ds, v :: vs, h, k => ⟨v, vs, rfl, k 0 d v rfl rfl, Reps.of_get (by simpa using h) fun i x w a b => k (i + 1) x w (by simpa using a) (by simpa using b)⟩

/-! data as the library's -/
mutual
theorem Rep.dp : ∀ (d : D) (v : V), d.plain = true → Rep P H B d v → Dp P.K H v d.py
  | .non, _, _, h => by rw [show _ = V.non from h]; exact .non
  | .bl _, _, _, h => by rw [show _ = V.bl _ from h]; exact .bl _
  | .int _, _, _, h => by rw [show _ = V.int _ from h]; exact .int _
  | .str _, _, _, h => by rw [show _ = V.str _ from h]; exact .str _
  | .tup ds, v, p, h => by
    obtain ⟨a, vs, e, s, r⟩ := h
    subst e
    exact .tup s (Reps.dp ds vs (by simpa [D.plain] using p) r)
  | .lst ds, v, p, h => by
    obtain ⟨a, vs, e, s, n, r⟩ := h
    subst e
    exact .lst (SqL.of s) (Reps.dp ds vs (by simpa [D.plain] using p) r)
  | .dic _ _, _, p, _ => by simp [D.plain] at p
  | .obj _ _ _, _, p, _ => by simp [D.plain] at p
  | .row, _, p, _ => by simp [D.plain] at p
  | .cell _ _, _, p, _ => by simp [D.plain] at p
  | .fn _, _, p, _ => by simp [D.plain] at p
  | .lam _, _, p, _ => by simp [D.plain] at p
theorem Reps.dp : ∀ (ds : List D) (vs : List V), D.plains ds = true → Reps P H B ds vs → DpAll P.K H vs (D.pys ds)
  | [], _, _, h => by rw [show _ = [] from h]; exact .nil
  | d :: ds, vs, p, h => by
    obtain ⟨v, r, e, h1, h2⟩ := h
    subst e
    have p' : d.plain = true ∧ D.plains ds = true := by simpa [D.plains] using p
    exact .cons (Rep.dp d v p'.1 h1) (Reps.dp ds r p'.2 h2)
end
end

/-! ### the row of draws -/
def Fz (K : PySem.W.Frag) (H : Hp) (a : Addr) (xs : List V) : Prop :=
  (∃ o, H a = some (.frz o (.lst xs))) ∨ ∃ (o : Obj) (its : Array Value) (n : Nat), K.lookup a = some o ∧ o.cls = .type "list" ∧ o.dict = none ∧ o.data = .seq its n ∧ its.size ≤ sizeLine ∧ Vals xs its.toList
theorem Fz.sq {K : PySem.W.Frag} {H : Hp} {a : Addr} {xs : List V} (h : Fz K H a xs) : SqL K H a xs := by
  rcases h with ⟨o, h⟩ | h
  · exact .inl (.inr ⟨o, h⟩)
  · exact .inr h
theorem Fz.ext {K : PySem.W.Frag} {H H' : Hp} {B : Addr → Prop} {a : Addr} {xs : List V} (h : Fz K H a xs) (e : Ext B H H') : Fz K H' a xs := by
  rcases h with ⟨o, h⟩ | h
  · exact .inl ⟨o, e.keep _ _ h (fun z => z.2) trivial⟩
  · exact .inr h
def Row (P : Par) (H : Hp) (st : DS) : Prop := ∃ sa, H P.ra = some (.lst [.ref sa, .int st.pos, .int st.seed, .int st.rest]) ∧ Fz P.K H sa (st.ns.map V.int) ∧ LamX.Tabs P.T H
theorem code_nomt {c : Addr} {q : Str} : ¬ Mt (LamX.CodeO c q) := by
  rintro ⟨a, es, ep, e⟩
  have h1 : (∃ (oc : Obj) (vs : Array Value) (t : Tok), (⟨Array.replicate (c + 1) ⟨.none, none, .fields #[.none, .str q default], #[]⟩, {}⟩ : Heap).get? c = some oc ∧ oc.data = .fields vs ∧ vs[1]? = some (.str q t)) := by
    refine ⟨⟨.none, none, .fields #[.none, .str q default], #[]⟩, _, default, ?_, rfl, rfl⟩
    unfold Heap.get?
    show (match (Array.replicate (c + 1) (⟨.none, none, .fields #[.none, .str q default], #[]⟩ : Obj))[c]? with | some ⟨_, _, .freed, _⟩ => none | o => o) = _
    rw [Array.getElem?_replicate, if_pos (Nat.lt_succ_self c)]
  have h2 : (⟨Array.replicate (c + 1) ⟨.none, none, .fields #[.none, .str q default], #[]⟩, {}⟩ : Heap).DictRaw a es ep := by
    have := congrFun e (⟨Array.replicate (c + 1) ⟨.none, none, .fields #[.none, .str q default], #[]⟩, {}⟩ : Heap)
    exact this ▸ h1
  obtain ⟨o, ho, _, hd⟩ := h2
  unfold Heap.get? at ho
  have e2 : (Array.replicate (c + 1) (⟨.none, none, .fields #[.none, .str q default], #[]⟩ : Obj))[a]? = if a < c + 1 then some ⟨.none, none, .fields #[.none, .str q default], #[]⟩ else none := Array.getElem?_replicate
  have ho : (match (Array.replicate (c + 1) (⟨.none, none, .fields #[.none, .str q default], #[]⟩ : Obj))[a]? with | some ⟨_, _, .freed, _⟩ => none | o => o) = some o := ho
  rw [e2] at ho
  by_cases ha : a < c + 1
  · rw [if_pos ha] at ho
    cases ho
    cases hd
  · rw [if_neg ha] at ho
    cases ho
theorem tabs_upd {T : List (Addr × Str)} {H : Hp} (t : LamX.Tabs T H) {p : Addr} {o : HO} (hn : H p = none ∨ ∃ u, H p = some u ∧ Mt u) : LamX.Tabs T (upd H p o) := by
  intro q hq
  obtain ⟨ps, h1, h2, h3⟩ := t q hq
  have ne : ∀ b u, H b = some u → ¬ Mt u → b ≠ p := fun b u e n z => by
    rw [z] at e
    rcases hn with k | ⟨w, k, m⟩
    · rw [k] at e; cases e
    · rw [k] at e; cases e; exact n m
  refine ⟨ps, by rw [upd_ne (ne _ _ h1 fun z => z)]; exact h1, h2, fun pos cv hc => ?_⟩
  obtain ⟨c, e1, e2⟩ := h3 pos cv hc
  refine ⟨c, e1, ?_⟩
  rcases hn with k | ⟨w, k, m⟩
  · rw [upd_ne (ne_of_none e2 k)]; exact e2
  · by_cases z : c = p
    · rw [z] at e2
      rw [e2] at k
      cases k
      exact absurd m code_nomt
    · rw [upd_ne z]; exact e2
theorem Row.upd {P : Par} {H : Hp} {st : DS} (r : Row P H st) {p : Addr} {o : HO} (h : p ≠ P.ra) (hn : H p = none ∨ ∃ u, H p = some u ∧ Mt u) : Row P (upd H p o) st := by
  obtain ⟨sa, h1, h2, h3⟩ := r
  refine ⟨sa, by rw [upd_ne (Ne.symm h)]; exact h1, ?_, tabs_upd h3 hn⟩
  rcases h2 with ⟨ob, h2⟩ | h2
  · refine .inl ⟨ob, ?_⟩
    rw [upd_ne]
    · exact h2
    · intro z
      subst z
      rcases hn with q | ⟨u, q, m⟩
      · rw [q] at h2; cases h2
      · rw [q] at h2; cases h2; exact m
  · exact .inr h2
theorem Row.new {P : Par} {H : Hp} {st : DS} (r : Row P H st) {p : Addr} {o : HO} (h : H p = none) : Row P (L2.upd H p o) st :=
  r.upd (fun z => by obtain ⟨sa, h1, _⟩ := r; rw [z] at h; rw [h] at h1; cases h1) (.inl h)
end Ev

namespace Ev
open PySem PySem.Spec PyProof.Rows L2

/-! ### results: a value and the row of draws behind it; an exception; nothing that is told -/
inductive Res (α : Type) where
  | ok (a : α) (st : DS)
  | exc (c : Str) (fs : List (Str × D)) (st : DS)
  | stuck
def Res.bind {α β : Type} (r : Res α) (k : α → DS → Res β) : Res β :=
  match r with
  | .ok a st => k a st
  | .exc c fs st => .exc c fs st
  | .stuck => .stuck
@[simp] theorem Res.bind_ok {α β : Type} (a : α) (st : DS) (k : α → DS → Res β) : (Res.ok a st).bind k = k a st := rfl
@[simp] theorem Res.bind_exc {α β : Type} (c : Str) (fs : List (Str × D)) (st : DS) (k : α → DS → Res β) : (Res.exc c fs st : Res α).bind k = .exc c fs st := rfl
@[simp] theorem Res.bind_stuck {α β : Type} (k : α → DS → Res β) : (Res.stuck : Res α).bind k = .stuck := rfl
/-- a part that may be untold -/
def Res.of {α : Type} (o : Option α) (st : DS) : Res α :=
  match o with
  | some a => .ok a st
  | none => .stuck
@[simp] theorem Res.of_some {α : Type} (a : α) (st : DS) : Res.of (some a) st = .ok a st := rfl
@[simp] theorem Res.of_none {α : Type} (st : DS) : (Res.of none st : Res α) = .stuck := rfl

abbrev EE := List (Option D)
abbrev EM := EE → DS → Res D
abbrev TM := EE → DS → Res Bool
abbrev AM := EE → DS → Res (List D)
abbrev FM := List D → DS → Res D

/-- where the row of draws stands, the tables of code objects, the law's lambdas -/
abbrev Tbs : Type := List (Addr × Str)
structure RA (Tb : Tbs) where
  a : Addr
  L : Nat → Addr → HO
abbrev pr (X : Cx) {Tb : Tbs} (ra : RA Tb) : Par := ⟨X.K, X.mg, ra.a, X.w, Tb, ra.L⟩
/-- what stands ahead of an expression -/
structure Pre (P : Par) (B : Addr → Prop) (σ : L2.St) (ρ : EE) (H : Hp) (st : DS) : Prop where
  bra : B P.ra
  dom : ∀ b, B b → H b ≠ none
  row : Row P H st
  env : ∀ (i : Nat) (d : D), ρ[i]? = some (some d) → ∃ v, σ[i]? = some (some v) ∧ Rep P H B d v
  len : ρ.length ≤ σ.length
abbrev isRa (P : Par) : Addr → Prop := fun a => a = P.ra
theorem Pre.ext {P : Par} {B : Addr → Prop} {σ : L2.St} {ρ : EE} {H H' : Hp} {st st' : DS} (p : Pre P B σ ρ H st) (e : Ext (isRa P) H H') (r : Row P H' st') : Pre P B σ ρ H' st' :=
  ⟨p.bra, fun b z => e.dom b (p.dom b z), r, fun i d q => by
    obtain ⟨v, a, b⟩ := p.env i d q
    exact ⟨v, a, b.ext e fun x z => by rw [z]; exact p.bra⟩, p.len⟩
theorem Pre.notB {P : Par} {B : Addr → Prop} {σ : L2.St} {ρ : EE} {H : Hp} {st : DS} (p : Pre P B σ ρ H st) {a : Addr} (h : H a = none) : ¬ B a := fun z => p.dom a z h

/-! ### what is wanted behind -/
def XRep (P : Par) (H : Hp) (B : Addr → Prop) (fs : List (Str × D)) (dd : Option Addr) : Prop :=
  fs = [] ∨ ∃ dx fl, dd = some dx ∧ H dx = some (.xd fl) ∧ fl.map (fun q => q.1) = fs.map (fun q => q.1) ∧ Reps P H B (fs.map fun q => q.2) (fl.map fun q => q.2)
def XPost (P : Par) (B : Addr → Prop) (H : Hp) (E : XK) (c : Str) (fs : List (Str × D)) (st' : DS) : Prop :=
  ∀ C dd H', P.mg c = some (.ref C) → Ext (isRa P) H H' → Row P H' st' → XRep P H' B fs dd → E (.ref C) dd H'
def Post {α β : Type} (P : Par) (B : Addr → Prop) (H : Hp) (E : XK) (R : Hp → α → β → Prop) (Q : β → Hp → Prop) : Res α → Prop
  | .ok d st' => ∀ v H', Ext (isRa P) H H' → Row P H' st' → R H' d v → Q v H'
  | .exc c fs st' => XPost P B H E c fs st'
  | .stuck => False
theorem XPost.later {P : Par} {B : Addr → Prop} {H H1 : Hp} {E : XK} {c : Str} {fs : List (Str × D)} {st' : DS} (e : Ext (isRa P) H H1) (h : XPost P B H E c fs st') : XPost P B H1 E c fs st' :=
  fun C dd H' m e' r x => h C dd H' m (e.trans e') r x
theorem Post.later {α β : Type} {P : Par} {B : Addr → Prop} {H H1 : Hp} {E : XK} {R : Hp → α → β → Prop} {Q : β → Hp → Prop} {r : Res α} (e : Ext (isRa P) H H1) (h : Post P B H E R Q r) : Post P B H1 E R Q r := by
  cases r with
  | ok d st' => exact fun v H' e' w x => h v H' (e.trans e') w x
  | exc c fs st' => exact XPost.later e h
  | stuck => exact h
theorem Post.imp {α β : Type} {P : Par} {B : Addr → Prop} {H : Hp} {E : XK} {R : Hp → α → β → Prop} {Q Q' : β → Hp → Prop} {r : Res α} (h : Post P B H E R Q r) (k : ∀ v H', Q v H' → Q' v H') : Post P B H E R Q' r := by
  cases r with
  | ok d st' => exact fun v H' e' w x => k _ _ (h v H' e' w x)
  | exc c fs st' => exact h
  | stuck => exact h
/-- THE STEP: a first part, then what hangs on it -/
theorem Post.seq {α β γ δ : Type} {P : Par} {B : Addr → Prop} {H : Hp} {E : XK} {R : Hp → α → β → Prop} {R' : Hp → γ → δ → Prop} {Q : δ → Hp → Prop} {r : Res α} {k : α → DS → Res γ} {T : β → Hp → Prop} (h : Post P B H E R' Q (r.bind k))
    (g : ∀ a st1 v H1, r = .ok a st1 → Ext (isRa P) H H1 → Row P H1 st1 → R H1 a v → Post P B H1 E R' Q (k a st1) → T v H1) : Post P B H E R T r := by
  cases r with
  | ok d st' => exact fun v H' e w x => g d st' v H' rfl e w x (Post.later e h)
  | exc c fs st' => exact h
  | stuck => exact h

abbrev EPost (P : Par) (B : Addr → Prop) (H : Hp) (E : XK) (Q : VK) (r : Res D) : Prop := Post P B H E (fun H' d v => Rep P H' B d v) Q r
abbrev TPost (P : Par) (B : Addr → Prop) (H : Hp) (E : XK) (Q : Bool → Hp → Prop) (r : Res Bool) : Prop := Post P B H E (fun _ (d v : Bool) => v = d) Q r
abbrev APost (P : Par) (B : Addr → Prop) (H : Hp) (E : XK) (Q : List V → Hp → Prop) (r : Res (List D)) : Prop := Post P B H E (fun H' d v => Reps P H' B d v) Q r

section
variable {X : Cx} {Tb : Tbs} {ra : RA Tb} {E : XK}
def tD (X : Cx) {Tb : Tbs} (ra : RA Tb) (E : XK) (m : EM) : TE := fun σ H Q => ∃ B ρ st, Pre (pr X ra) B σ ρ H st ∧ EPost (pr X ra) B H E Q (m ρ st)
def tT (X : Cx) {Tb : Tbs} (ra : RA Tb) (E : XK) (m : TM) : TT := fun σ H Q => ∃ B ρ st, Pre (pr X ra) B σ ρ H st ∧ TPost (pr X ra) B H E Q (m ρ st)
def tA (X : Cx) {Tb : Tbs} (ra : RA Tb) (E : XK) (m : AM) : TA := fun σ H Q => ∃ B ρ st, Pre (pr X ra) B σ ρ H st ∧ APost (pr X ra) B H E Q (m ρ st)
abbrev DE (X : Cx) {Tb : Tbs} (ra : RA Tb) (E : XK) (e : Expr) (m : EM) : Prop := PE X e (tD X ra E m)
abbrev DT (X : Cx) {Tb : Tbs} (ra : RA Tb) (E : XK) (e : Expr) (m : TM) : Prop := PT X e (tT X ra E m)
abbrev DW (X : Cx) {Tb : Tbs} (ra : RA Tb) (E : XK) (e : Expr) (m : TM) : Prop := PW X e (tT X ra E m)
abbrev DA (X : Cx) {Tb : Tbs} (ra : RA Tb) (E : XK) (es : List Expr) (m : AM) : Prop := PA X es (tA X ra E m)

theorem PE.imp {e : Expr} {t t' : TE} (h : PE X e t) (k : ∀ σ H Q, t' σ H Q → t σ H Q) : PE X e t' := ⟨fun pins s σ H Q I q => h.run pins s σ H Q I (k σ H Q q)⟩
theorem PT.imp {e : Expr} {t t' : TT} (h : PT X e t) (k : ∀ σ H Q, t' σ H Q → t σ H Q) : PT X e t' := ⟨fun pins s σ H Q I q => h.run pins s σ H Q I (k σ H Q q)⟩
theorem PW.imp {e : Expr} {t t' : TT} (h : PW X e t) (k : ∀ σ H Q, t' σ H Q → t σ H Q) : PW X e t' := ⟨fun wh pins s σ H Q I q => h.run wh pins s σ H Q I (k σ H Q q)⟩
theorem PA.imp {e : List Expr} {t t' : TA} (h : PA X e t) (k : ∀ σ H Q, t' σ H Q → t σ H Q) : PA X e t' := ⟨fun pos pins s σ H Q I q => h.run pos pins s σ H Q I (k σ H Q q)⟩
theorem PS.imp {e : Stmt} {t t' : TS} (h : PS X e t) (k : ∀ D σ H, t' D σ H → t D σ H) : PS X e t' := ⟨fun pins s σ H D I q => h.run pins s σ H D I (k D σ H q)⟩
theorem PSs.imp {e : List Stmt} {t t' : TS} (h : PSs X e t) (k : ∀ D σ H, t' D σ H → t D σ H) : PSs X e t' := ⟨fun pins s σ H D I q => h.run pins s σ H D I (k D σ H q)⟩

/-! ### names and constants -/
def cVar (i : Nat) : EM := fun ρ st => match ρ[i]? with
  | some (some d) => .ok d st
  | _ => .stuck
def cCon (d : D) : EM := fun _ st => .ok d st
theorem de_var {i : Nat} {x : Str} {pos : Pos} (h : PE X (.Name x pos) (tVar i)) : DE X ra E (.Name x pos) (cVar i) := by
  refine PE.imp h fun σ H Q ⟨B, ρ, st, p, q⟩ => ?_
  unfold cVar at q
  split at q
  · rename_i d e
    obtain ⟨v, h1, h2⟩ := p.env i d e
    exact ⟨v, h1, q v H Ext.refl p.row h2⟩
  · exact q.elim
theorem de_con {e : Expr} {v : V} {d : D} (h : PE X e (tC v)) (r : ∀ H B, Rep (pr X ra) H B d v) : DE X ra E e (cCon d) :=
  PE.imp h fun σ H Q ⟨B, ρ, st, p, q⟩ => q v H Ext.refl p.row (r H B)
theorem de_int {i : Int} {j pos} : DE X ra E (.Constant (.int i) j pos) (cCon (.int i)) := de_con (v := .int i) pe_int fun _ _ => rfl
theorem de_bl {i : Bool} {j pos} : DE X ra E (.Constant (.bool i) j pos) (cCon (.bl i)) := de_con (v := .bl i) pe_bl fun _ _ => rfl
theorem de_non {j pos} : DE X ra E (.Constant .none j pos) (cCon .non) := de_con (v := .non) pe_non fun _ _ => rfl
theorem de_str {x : Str} {j pos} : DE X ra E (.Constant (.str x) j pos) (cCon (.str x)) := de_con (v := .str x) pe_str fun _ _ => rfl
/-- a module's constant: an int or a text -/
theorem de_gint {x : Str} {i : Int} {pos : Pos} (hg : Gl X x) (hm : ∃ t, X.mg x = some (.int i t)) (hd : (x == ("__debug__" : Str)) = false := by decide) : DE X ra E (.Name x pos) (cCon (.int i)) := by
  obtain ⟨t, hm⟩ := hm
  exact de_con (v := .int i) (pe_glob hg hm ⟨t, rfl⟩ hd) fun _ _ => rfl
theorem de_gstr {x y : Str} {pos : Pos} (hg : Gl X x) (hm : ∃ t, X.mg x = some (.str y t)) (hd : (x == ("__debug__" : Str)) = false := by decide) : DE X ra E (.Name x pos) (cCon (.str y)) := by
  obtain ⟨t, hm⟩ := hm
  exact de_con (v := .str y) (pe_glob hg hm ⟨t, rfl⟩ hd) fun _ _ => rfl
/-- .. or a tuple that stands in the written part -/
theorem de_gtup {x : Str} {a : Addr} {d : D} {pos : Pos} (hg : Gl X x) (hm : X.mg x = some (.ref a)) (r : ∀ H B, Rep (pr X ra) H B d (.ref a)) (hd : (x == ("__debug__" : Str)) = false := by decide) : DE X ra E (.Name x pos) (cCon d) :=
  de_con (v := .ref a) (pe_glob hg hm rfl hd) r

/-! ### two values -/
/-- an operation on two data, as an operation on two values -/
def OpD (X : Cx) {Tb : Tbs} (ra : RA Tb) (fn : Value → Value → Sem Value) (f : D → D → Option D) : Prop :=
  ∃ r : R2, OpR X fn r ∧ ∀ (B : Addr → Prop) (H : Hp) (st : DS) (x y z : D) (vx vy : V) (Q : VK), B ra.a → (∀ b, B b → H b ≠ none) → Row (pr X ra) H st → Rep (pr X ra) H B x vx → Rep (pr X ra) H B y vy → f x y = some z →
    (∀ v H', Ext (isRa (pr X ra)) H H' → Row (pr X ra) H' st → Rep (pr X ra) H' B z v → Q v H') → r vx vy H Q
def cOp (f : D → D → Option D) (a b : EM) : EM := fun ρ st => (a ρ st).bind fun x st1 => (b ρ st1).bind fun y st2 => Res.of (f x y) st2
/-- the first of two that tells -/
def orD (f g : D → D → Option D) : D → D → Option D := fun x y => match f x y with
  | some z => some z
  | none => g x y
theorem OpD.or {fn : Value → Value → Sem Value} {f g : D → D → Option D} (h : OpD X ra fn f) (k : OpD X ra fn g) : OpD X ra fn (orD f g) := by
  obtain ⟨r1, o1, q1⟩ := h
  obtain ⟨r2, o2, q2⟩ := k
  refine ⟨_, o1.or o2, fun B H st x y z vx vy Q b d w rx ry e q => ?_⟩
  unfold orD at e
  split at e
  · rename_i z' e'
    cases e
    exact .inl (q1 B H st x y _ vx vy Q b d w rx ry e' q)
  · exact .inr (q2 B H st x y _ vx vy Q b d w rx ry e q)
variable {a b : Expr} {ma mb : EM} {pos : Pos}
theorem bin_of {r : R2} {f : D → D → Option D} {σ : L2.St} {H : Hp} {Q : VK}
    (hr : ∀ (B : Addr → Prop) (H : Hp) (st : DS) (x y z : D) (vx vy : V) (Q : VK), B ra.a → (∀ b, B b → H b ≠ none) → Row (pr X ra) H st → Rep (pr X ra) H B x vx → Rep (pr X ra) H B y vy → f x y = some z →
      (∀ v H', Ext (isRa (pr X ra)) H H' → Row (pr X ra) H' st → Rep (pr X ra) H' B z v → Q v H') → r vx vy H Q)
    (h : tD X ra E (cOp f ma mb) σ H Q) : tOp r (tD X ra E ma) (tD X ra E mb) σ H Q := by
  obtain ⟨B, ρ, st, p, q⟩ := h
  refine ⟨B, ρ, st, p, Post.seq q fun x st1 vx H1 _ e1 w1 rx q1 => ?_⟩
  have p1 := p.ext e1 w1
  refine ⟨B, ρ, st1, p1, Post.seq q1 fun y st2 vy H2 _ e2 w2 ry q2 => ?_⟩
  have p2 := p1.ext e2 w2
  have rx2 := rx.ext e2 fun a z => by rw [z]; exact p.bra
  cases hz : f x y with
  | none => rw [hz] at q2; exact q2.elim
  | some z =>
    rw [hz] at q2
    exact hr B H2 st2 x y z vx vy Q p.bra p2.dom p2.row rx2 ry hz fun v H' e w rz => q2 v H' e w rz
theorem de_op {op : Operator} {f : D → D → Option D} (ho : OpD X ra (binaryOp op) f) (ha : DE X ra E a ma) (hb : DE X ra E b mb) : DE X ra E (.BinOp a op b pos) (cOp f ma mb) := by
  obtain ⟨r, o, hr⟩ := ho
  exact PE.imp (pe_op o ha hb) fun σ H Q h => bin_of hr h
theorem de_cmp {op : CmpOp} {f : D → D → Option D} (ho : OpD X ra (compareOp op) f) (ha : DE X ra E a ma) (hb : DE X ra E b mb) (hm : behindInMarks op b = false := by first | exact nomark _ | rfl) : DE X ra E (.Compare a [op] [b] pos) (cOp f ma mb) := by
  obtain ⟨r, o, hr⟩ := ho
  exact PE.imp (pe_cmpR o ha hb hm) fun σ H Q h => bin_of hr h
/-- a value as a test -/
def D.tru : D → Option Bool
  | .bl b => some b
  | _ => none
def cTest (m : EM) : TM := fun ρ st => (m ρ st).bind fun d st1 => Res.of d.tru st1
theorem tTest_of {m : EM} {σ : L2.St} {H : Hp} {Q : Bool → Hp → Prop} (h : tT X ra E (cTest m) σ H Q) : tTest (tD X ra E m) σ H Q := by
  obtain ⟨B, ρ, st, p, q⟩ := h
  refine ⟨B, ρ, st, p, Post.seq q fun d st1 v H1 _ e1 w1 r q1 => ?_⟩
  cases d with
  | bl k => exact ⟨k, r, q1 k H1 Ext.refl w1 rfl⟩
  | _ => exact q1.elim
theorem dt_val {e : Expr} {m : EM} (h : DE X ra E e m) (he : ∀ whole, isTrue e X.env whole = (do let v ← whole; standAt e.pos; holding [v] (truthy v)) := by intro _; rfl) : DT X ra E e (cTest m) :=
  PT.imp (pt_val h he) fun σ H Q h => tTest_of h
theorem dt_cmp {op : CmpOp} {f : D → D → Option D} (ho : OpD X ra (compareOp op) f) (ha : DE X ra E a ma) (hb : DE X ra E b mb) (hm : behindInMarks op b = false := by first | exact nomark _ | rfl) : DT X ra E (.Compare a [op] [b] pos) (cTest (cOp f ma mb)) := by
  obtain ⟨r, o, hr⟩ := ho
  refine PT.imp (pt_cmpR o ha hb hm) fun σ H Q h => ?_
  have h1 := tTest_of h
  exact bin_of hr h1
/-! ### chains -/
def cChain (f g : D → D → Option D) (a b c : EM) : EM := fun ρ st => (a ρ st).bind fun x st1 => (b ρ st1).bind fun y st2 => (Res.of (f x y) st2).bind fun k st3 => (Res.of k.tru st3).bind fun k st3 => if k = true then (c ρ st3).bind fun z st4 => Res.of (g y z) st4 else .ok (.bl false) st3
variable {c : Expr} {mc : EM}
theorem chain_of {r r' : R2} {f g : D → D → Option D} {σ : L2.St} {H : Hp} {Q : VK}
    (hr : ∀ (B : Addr → Prop) (H : Hp) (st : DS) (x y z : D) (vx vy : V) (Q : VK), B ra.a → (∀ b, B b → H b ≠ none) → Row (pr X ra) H st → Rep (pr X ra) H B x vx → Rep (pr X ra) H B y vy → f x y = some z →
      (∀ v H', Ext (isRa (pr X ra)) H H' → Row (pr X ra) H' st → Rep (pr X ra) H' B z v → Q v H') → r vx vy H Q)
    (hr' : ∀ (B : Addr → Prop) (H : Hp) (st : DS) (x y z : D) (vx vy : V) (Q : VK), B ra.a → (∀ b, B b → H b ≠ none) → Row (pr X ra) H st → Rep (pr X ra) H B x vx → Rep (pr X ra) H B y vy → g x y = some z →
      (∀ v H', Ext (isRa (pr X ra)) H H' → Row (pr X ra) H' st → Rep (pr X ra) H' B z v → Q v H') → r' vx vy H Q)
    (h : tD X ra E (cChain f g ma mb mc) σ H Q) : tChain r r' (tD X ra E ma) (tD X ra E mb) (tD X ra E mc) σ H Q := by
  obtain ⟨B, ρ, st, p, q⟩ := h
  refine ⟨B, ρ, st, p, Post.seq q fun x st1 vx H1 _ e1 w1 rx q1 => ?_⟩
  have p1 := p.ext e1 w1
  refine ⟨B, ρ, st1, p1, Post.seq q1 fun y st2 vy H2 _ e2 w2 ry q2 => ?_⟩
  have p2 := p1.ext e2 w2
  have sub : ∀ a, isRa (pr X ra) a → B a := fun a z => by rw [z]; exact p.bra
  have rx2 := rx.ext e2 sub
  cases hz : f x y with
  | none => rw [hz] at q2; exact q2.elim
  | some z =>
    rw [hz] at q2
    refine hr B H2 st2 x y z vx vy _ p.bra p2.dom p2.row rx2 ry hz fun v H3 e3 w3 rz => ?_
    have p3 := p2.ext e3 w3
    have q3 := Post.later e3 q2
    cases z with
    | bl k =>
      refine ⟨k, rz, ?_⟩
      cases k with
      | false => rw [if_neg Bool.false_ne_true]; exact q3 (.bl false) H3 Ext.refl w3 rfl
      | true =>
        rw [if_pos rfl]
        refine ⟨B, ρ, st2, p3, Post.seq q3 fun z st4 vz H4 _ e4 w4 rz4 q4 => ?_⟩
        have p4 := p3.ext e4 w4
        have ry4 := (ry.ext e3 sub).ext e4 sub
        cases hz' : g y z with
        | none => rw [hz'] at q4; exact q4.elim
        | some u =>
          rw [hz'] at q4
          exact hr' B H4 st4 y z u vy vz Q p.bra p4.dom p4.row ry4 rz4 hz' fun v H' e w r => q4 v H' e w r
    | _ => exact q3.elim
end
end Ev

namespace Ev
open PySem PySem.Spec PyProof.Rows L2
section
variable {X : Cx} {Tb : Tbs} {ra : RA Tb} {E : XK} {a b c e : Expr} {es : List Expr} {ma mb mc : EM} {ta tb tc : TM} {am : AM} {pos : Pos}

theorem sub_ra {P : Par} {B : Addr → Prop} (h : B P.ra) : ∀ a, isRa P a → B a := fun a z => by rw [z]; exact h

/-! ### and, or, not, if else -/
def cAnd (a b : TM) : TM := fun ρ st => (a ρ st).bind fun k st1 => if k = true then b ρ st1 else .ok false st1
def cOr (a b : TM) : TM := fun ρ st => (a ρ st).bind fun k st1 => if k = true then .ok true st1 else b ρ st1
def cNot (a : TM) : TM := fun ρ st => (a ρ st).bind fun k st1 => .ok (!k) st1
def cIf (c : TM) (a b : EM) : EM := fun ρ st => (c ρ st).bind fun k st1 => if k = true then a ρ st1 else b ρ st1
def cAndV (a b : EM) : EM := fun ρ st => (a ρ st).bind fun x st1 => (Res.of x.tru st1).bind fun k st1 => if k = true then b ρ st1 else .ok (.bl false) st1
def cOrV (a b : EM) : EM := fun ρ st => (a ρ st).bind fun x st1 => (Res.of x.tru st1).bind fun k st1 => if k = true then .ok (.bl true) st1 else b ρ st1
def cNotV (a : EM) : EM := fun ρ st => (a ρ st).bind fun x st1 => (Res.of x.tru st1).bind fun k st1 => .ok (.bl (!k)) st1
theorem dw_and1 (ha : DT X ra E a ta) : DW X ra E (.BoolOp .And [a] pos) ta := pw_and1 ha
theorem dw_or1 (ha : DT X ra E a ta) : DW X ra E (.BoolOp .Or [a] pos) ta := pw_or1 ha
theorem dw_and (ha : DT X ra E a ta) (hb : DW X ra E (.BoolOp .And (b :: es) pos) tb) : DW X ra E (.BoolOp .And (a :: b :: es) pos) (cAnd ta tb) :=
  PW.imp (pw_and ha hb) fun σ H Q ⟨B, ρ, st, p, q⟩ => ⟨B, ρ, st, p, Post.seq q fun k st1 v H1 _ e1 w1 r q1 => by
    have r : v = k := r
    subst r
    cases v with
    | true => rw [if_pos rfl]; exact ⟨B, ρ, st1, p.ext e1 w1, q1⟩
    | false => rw [if_neg Bool.false_ne_true]; exact q1 false H1 Ext.refl w1 rfl⟩
theorem dw_or (ha : DT X ra E a ta) (hb : DW X ra E (.BoolOp .Or (b :: es) pos) tb) : DW X ra E (.BoolOp .Or (a :: b :: es) pos) (cOr ta tb) :=
  PW.imp (pw_or ha hb) fun σ H Q ⟨B, ρ, st, p, q⟩ => ⟨B, ρ, st, p, Post.seq q fun k st1 v H1 _ e1 w1 r q1 => by
    have r : v = k := r
    subst r
    cases v with
    | false => rw [if_neg Bool.false_ne_true]; exact ⟨B, ρ, st1, p.ext e1 w1, q1⟩
    | true => rw [if_pos rfl]; exact q1 true H1 Ext.refl w1 rfl⟩
theorem dt_w (h : DW X ra E a ta) : DT X ra E a ta := PW.pt h
theorem dt_not (ha : DT X ra E a ta) : DT X ra E (.UnaryOp .Not a pos) (cNot ta) :=
  PT.imp (pt_not ha) fun σ H Q ⟨B, ρ, st, p, q⟩ => ⟨B, ρ, st, p, Post.seq q fun k st1 v H1 _ e1 w1 r q1 => by
    have r : v = k := r
    subst r
    exact q1 (!v) H1 Ext.refl w1 rfl⟩
theorem de_if (hc : DT X ra E c tc) (ha : DE X ra E a ma) (hb : DE X ra E b mb) : DE X ra E (.IfExp c a b pos) (cIf tc ma mb) :=
  PE.imp (pe_ifExp hc ha hb) fun σ H Q ⟨B, ρ, st, p, q⟩ => ⟨B, ρ, st, p, Post.seq q fun k st1 v H1 _ e1 w1 r q1 => by
    have r : v = k := r
    subst r
    cases v with
    | true => rw [if_pos rfl]; exact ⟨B, ρ, st1, p.ext e1 w1, q1⟩
    | false => rw [if_neg Bool.false_ne_true]; exact ⟨B, ρ, st1, p.ext e1 w1, q1⟩⟩
theorem de_one {op} (ha : DE X ra E a ma) : DE X ra E (.BoolOp op [a] pos) ma := pe_one ha
theorem de_and (ha : DE X ra E a ma) (hb : DE X ra E (.BoolOp .And (b :: es) pos) mb) : DE X ra E (.BoolOp .And (a :: b :: es) pos) (cAndV ma mb) :=
  PE.imp (pe_and ha hb) fun σ H Q ⟨B, ρ, st, p, q⟩ => ⟨B, ρ, st, p, Post.seq q fun x st1 v H1 _ e1 w1 r q1 => by
    cases x with
    | bl k =>
      refine ⟨k, r, ?_⟩
      cases k with
      | true => rw [if_pos rfl]; exact ⟨B, ρ, st1, p.ext e1 w1, q1⟩
      | false => rw [if_neg Bool.false_ne_true]; exact q1 (.bl false) H1 Ext.refl w1 rfl
    | _ => exact q1.elim⟩
theorem de_or (ha : DE X ra E a ma) (hb : DE X ra E (.BoolOp .Or (b :: es) pos) mb) : DE X ra E (.BoolOp .Or (a :: b :: es) pos) (cOrV ma mb) :=
  PE.imp (pe_or ha hb) fun σ H Q ⟨B, ρ, st, p, q⟩ => ⟨B, ρ, st, p, Post.seq q fun x st1 v H1 _ e1 w1 r q1 => by
    cases x with
    | bl k =>
      refine ⟨k, r, ?_⟩
      cases k with
      | false => rw [if_neg Bool.false_ne_true]; exact ⟨B, ρ, st1, p.ext e1 w1, q1⟩
      | true => rw [if_pos rfl]; exact q1 (.bl true) H1 Ext.refl w1 rfl
    | _ => exact q1.elim⟩
theorem de_not (ha : DE X ra E a ma) : DE X ra E (.UnaryOp .Not a pos) (cNotV ma) :=
  PE.imp (pe_not ha) fun σ H Q ⟨B, ρ, st, p, q⟩ => ⟨B, ρ, st, p, Post.seq q fun x st1 v H1 _ e1 w1 r q1 => by
    cases x with
    | bl k => exact ⟨k, r, q1 (.bl (!k)) H1 Ext.refl w1 rfl⟩
    | _ => exact q1.elim⟩
theorem de_chain {op op' : CmpOp} {f g : D → D → Option D} (ho : OpD X ra (compareOp op) f) (ho' : OpD X ra (compareOp op') g) (ha : DE X ra E a ma) (hb : DE X ra E b mb) (hc : DE X ra E c mc)
    (hp : ∀ r r', OpR X (compareOp op) r → OpR X (compareOp op') r' → PE X (.Compare a [op, op'] [b, c] pos) (tChain r r' (tD X ra E ma) (tD X ra E mb) (tD X ra E mc))) : DE X ra E (.Compare a [op, op'] [b, c] pos) (cChain f g ma mb mc) := by
  obtain ⟨r, o, hr⟩ := ho
  obtain ⟨r', o', hr'⟩ := ho'
  exact PE.imp (hp r r' o o') fun σ H Q h => chain_of hr hr' h

/-! ### argument lists, displays -/
def aNil : AM := fun _ st => .ok [] st
def aCons (m : EM) (r : AM) : AM := fun ρ st => (m ρ st).bind fun x st1 => (r ρ st1).bind fun xs st2 => .ok (x :: xs) st2
theorem da_nil : DA X ra E [] aNil := PA.imp pa_nil fun σ H Q ⟨B, ρ, st, p, q⟩ => q [] H Ext.refl p.row Reps.nil
theorem da_cons (ha : DE X ra E e ma) (hr : DA X ra E es am) (hs : starEach (e :: es) X.env = (false, eval e X.env) :: starEach es X.env := by rfl) : DA X ra E (e :: es) (aCons ma am) :=
  PA.imp (pa_cons ha hr hs) fun σ H Q ⟨B, ρ, st, p, q⟩ => ⟨B, ρ, st, p, Post.seq q fun x st1 v H1 _ e1 w1 r q1 =>
    ⟨B, ρ, st1, p.ext e1 w1, Post.seq q1 fun xs st2 vs H2 _ e2 w2 rs q2 => q2 (v :: vs) H2 Ext.refl w2 (Reps.cons (r.ext e2 (sub_ra p.bra)) rs)⟩⟩
/-- the lengths that the machine allows -/
abbrev SZ : Nat := 16777216
theorem sz_eq : sizeLine = SZ := sizeLine_eq
def cTup (m : AM) : EM := fun ρ st => (m ρ st).bind fun xs st1 => if xs.length ≤ SZ then .ok (.tup xs) st1 else .stuck
theorem de_tup {x1} (h : DA X ra E es am) : DE X ra E (.Tuple es x1 pos) (cTup am) :=
  PE.imp (pe_tup h) fun σ H Q ⟨B, ρ, st, p, q⟩ => ⟨B, ρ, st, p, Post.seq q fun xs st1 vs H1 _ e1 w1 r q1 => by
    by_cases hz : xs.length ≤ SZ
    · rw [if_pos hz] at q1
      exact ⟨by rw [sz_eq, r.length]; exact hz, fun t ht => q1 (.ref t) _ (Ext.new ht) (w1.new ht) ⟨t, vs, rfl, SqT.of upd_same, r.ext (Ext.new ht) (sub_ra p.bra)⟩⟩
    · rw [if_neg hz] at q1
      exact q1.elim⟩
/-- a list at a new place -/
def FR (P : Par) (H : Hp) (B : Addr → Prop) (H' : Hp) (ds : List D) (v : V) : Prop := ∃ p vs, v = .ref p ∧ H p = none ∧ H' p = some (.lst vs) ∧ Reps P H' B ds vs
def tF (X : Cx) {Tb : Tbs} (ra : RA Tb) (E : XK) (m : AM) : TE := fun σ H Q => ∃ B ρ st, Pre (pr X ra) B σ ρ H st ∧ Post (pr X ra) B H E (FR (pr X ra) H B) Q (m ρ st)
abbrev DF (X : Cx) {Tb : Tbs} (ra : RA Tb) (E : XK) (e : Expr) (m : AM) : Prop := PE X e (tF X ra E m)
def cLst (m : AM) : EM := fun ρ st => (m ρ st).bind fun xs st1 => .ok (.lst xs) st1
theorem de_fresh (h : DF X ra E e am) : DE X ra E e (cLst am) :=
  PE.imp h fun σ H Q ⟨B, ρ, st, p, q⟩ => ⟨B, ρ, st, p, Post.seq q fun xs st1 v H1 _ e1 w1 ⟨a, vs, ev, hn, ha, r⟩ q1 => q1 v H1 Ext.refl w1 ⟨a, vs, ev, ha, p.notB hn, r⟩⟩
def cLim (m : AM) : AM := fun ρ st => (m ρ st).bind fun xs st1 => if xs.length ≤ SZ then .ok xs st1 else .stuck
theorem df_lst (h : DA X ra E es am) : DF X ra E (.List es pos) (cLim am) :=
  PE.imp (pe_lst h) fun σ H Q ⟨B, ρ, st, p, q⟩ => ⟨B, ρ, st, p, Post.seq q fun xs st1 vs H1 _ e1 w1 r q1 => by
    by_cases hz : xs.length ≤ SZ
    · rw [if_pos hz] at q1
      exact ⟨by rw [sz_eq, r.length]; exact hz, fun t ht => q1 (.ref t) _ (Ext.new ht) (w1.new ht) ⟨t, vs, rfl, e1.fresh ht, upd_same, r.ext (Ext.new ht) (sub_ra p.bra)⟩⟩
    · rw [if_neg hz] at q1
      exact q1.elim⟩

/-! ### calls of the module's defs -/
/-- the promise: called with data, it gives what F tells -/
def spF (K : PySem.W.Frag) (mg : Str → Option Value) (w : World) (Tb : Tbs) (n : Nat) (F : FM) : Sp := fun vs H Q E => vs.length = n ∧ ∃ (ra : RA Tb) (B : Addr → Prop) (st : DS) (ds : List D), B ra.a ∧ (∀ b, B b → H b ≠ none) ∧ Row ⟨K, mg, ra.a, w, Tb, ra.L⟩ H st ∧ Reps ⟨K, mg, ra.a, w, Tb, ra.L⟩ H B ds vs ∧ EPost ⟨K, mg, ra.a, w, Tb, ra.L⟩ B H E Q (F ds st)
def cCall (F : FM) (m : AM) : EM := fun ρ st => (m ρ st).bind fun ds st1 => F ds st1
section
variable {k n : Nat} {f : Addr} {fd : FuncData} {ps : List Str} {F : FM} {x : Str} {p : Pos}
theorem of_spF {ds : List D} {vs : List V} {B : Addr → Prop} {σ : L2.St} {ρ : EE} {H1 : Hp} {st1 : DS} {Q : VK} (p1 : Pre (pr X ra) B σ ρ H1 st1) (rs : Reps (pr X ra) H1 B ds vs) (hl : vs.length = n) (q : EPost (pr X ra) B H1 E Q (F ds st1)) : spF X.K X.mg X.w Tb n F vs H1 Q E :=
  ⟨hl, ra, B, st1, ds, p1.bra, p1.dom, p1.row, rs, q⟩
def cCallN (n : Nat) (F : FM) (m : AM) : EM := fun ρ st => (m ρ st).bind fun ds st1 => if ds.length = n then F ds st1 else .stuck
theorem de_call (G : FnOk X.prog X.w X.K X.mg X.base (L2.CX X.prog X.w) k f fd ps (spF X.K X.mg X.w Tb n F)) (hr : Room k X.A) (hg : Gl X x) (hm : X.mg x = some (.ref f)) (hk : PySem.W.keepIn X.K (.ref f) = true) (hb : Binds X.K fd ps []) (hx : Passes (L2.CX X.prog X.w) X E)
    (ha : DA X ra E (e :: es) am) (hdb : (x == ("__debug__" : Str)) = false := by decide) (he : starEach (e :: es) X.env = (false, eval e X.env) :: starEach es X.env := by rfl) (hpl : (backTo pos (starEach es X.env)).any (·.1) = false := by rfl) :
    DE X ra E (.Call (.Name x p) (e :: es) [] pos) (cCallN n F am) :=
  PE.imp (pe_call G hr hg hm hk hb .nil hx ha hdb he hpl) fun σ H Q ⟨B, ρ, st, p, q⟩ => ⟨B, ρ, st, p, Post.seq q fun ds st1 vs H1 _ e1 w1 r q1 => by
    by_cases hl : ds.length = n
    · rw [if_pos hl] at q1
      rw [List.append_nil]
      exact of_spF (p.ext e1 w1) r (by rw [r.length]; exact hl) q1
    · rw [if_neg hl] at q1
      exact q1.elim⟩
theorem de_call0 (G : FnOk X.prog X.w X.K X.mg X.base (L2.CX X.prog X.w) k f fd ps (spF X.K X.mg X.w Tb 0 F)) (hr : Room k X.A) (hg : Gl X x) (hm : X.mg x = some (.ref f)) (hk : PySem.W.keepIn X.K (.ref f) = true) (hb : Binds X.K fd ps []) (hx : Passes (L2.CX X.prog X.w) X E)
    (hdb : (x == ("__debug__" : Str)) = false := by decide) : DE X ra E (.Call (.Name x p) [] [] pos) (cCallN 0 F aNil) :=
  PE.imp (pe_call0 G hr hg hm hk hb .nil hx hdb) fun σ H Q ⟨B, ρ, st, p, q⟩ => by
    have q : EPost (pr X ra) B H E Q (F [] st) := q
    exact of_spF p Reps.nil rfl q
end

/-! ### calls of built-in functions -/
def CallD (X : Cx) {Tb : Tbs} (ra : RA Tb) (fn : Value) (f : List D → Option D) : Prop :=
  ∃ r : List V → Hp → VK → Prop, CallR X fn r ∧ ∀ (B : Addr → Prop) (H : Hp) (st : DS) (xs : List D) (z : D) (vs : List V) (Q : VK), B ra.a → (∀ b, B b → H b ≠ none) → Row (pr X ra) H st → Reps (pr X ra) H B xs vs → f xs = some z →
    (∀ v H', Ext (isRa (pr X ra)) H H' → Row (pr X ra) H' st → Rep (pr X ra) H' B z v → Q v H') → r vs H Q
/-- .. that give a new list -/
def CallF (X : Cx) {Tb : Tbs} (ra : RA Tb) (fn : Value) (f : List D → Option (List D)) : Prop :=
  ∃ r : List V → Hp → VK → Prop, CallR X fn r ∧ ∀ (B : Addr → Prop) (H : Hp) (st : DS) (xs zs : List D) (vs : List V) (Q : VK), B ra.a → (∀ b, B b → H b ≠ none) → Row (pr X ra) H st → Reps (pr X ra) H B xs vs → f xs = some zs →
    (∀ v H', Ext (isRa (pr X ra)) H H' → Row (pr X ra) H' st → FR (pr X ra) H B H' zs v → Q v H') → r vs H Q
def cBlt (f : List D → Option D) (m : AM) : EM := fun ρ st => (m ρ st).bind fun ds st1 => Res.of (f ds) st1
def fBlt (f : List D → Option (List D)) (m : AM) : AM := fun ρ st => (m ρ st).bind fun ds st1 => Res.of (f ds) st1
section
variable {id T : String} {x : Str} {p : Pos} {f : List D → Option D} {g : List D → Option (List D)}
theorem tCB_of {r : List V → Hp → VK → Prop} {σ : L2.St} {H : Hp} {Q : VK}
    (hr : ∀ (B : Addr → Prop) (H : Hp) (st : DS) (xs : List D) (z : D) (vs : List V) (Q : VK), B ra.a → (∀ b, B b → H b ≠ none) → Row (pr X ra) H st → Reps (pr X ra) H B xs vs → f xs = some z →
      (∀ v H', Ext (isRa (pr X ra)) H H' → Row (pr X ra) H' st → Rep (pr X ra) H' B z v → Q v H') → r vs H Q)
    (h : tD X ra E (cBlt f am) σ H Q) : tCB r (tA X ra E am) σ H Q := by
  obtain ⟨B, ρ, st, p, q⟩ := h
  refine ⟨B, ρ, st, p, Post.seq q fun ds st1 vs H1 _ e1 w1 rs q1 => ?_⟩
  cases hz : f ds with
  | none => rw [hz] at q1; exact q1.elim
  | some z =>
    rw [hz] at q1
    exact hr B H1 st1 ds z vs Q p.bra (p.ext e1 w1).dom w1 rs hz fun v H' e w rz => q1 v H' e w rz
theorem tCBF_of {r : List V → Hp → VK → Prop} {σ : L2.St} {H : Hp} {Q : VK}
    (hr : ∀ (B : Addr → Prop) (H : Hp) (st : DS) (xs zs : List D) (vs : List V) (Q : VK), B ra.a → (∀ b, B b → H b ≠ none) → Row (pr X ra) H st → Reps (pr X ra) H B xs vs → g xs = some zs →
      (∀ v H', Ext (isRa (pr X ra)) H H' → Row (pr X ra) H' st → FR (pr X ra) H B H' zs v → Q v H') → r vs H Q)
    (h : tF X ra E (fBlt g am) σ H Q) : tCB r (tA X ra E am) σ H Q := by
  obtain ⟨B, ρ, st, p, q⟩ := h
  refine ⟨B, ρ, st, p, Post.seq q fun ds st1 vs H1 _ e1 w1 rs q1 => ?_⟩
  cases hz : g ds with
  | none => rw [hz] at q1; exact q1.elim
  | some z =>
    rw [hz] at q1
    exact hr B H1 st1 ds z vs Q p.bra (p.ext e1 w1).dom w1 rs hz fun v H' e w ⟨a, us, r1, r2, r3⟩ => q1 v H' e w ⟨a, us, r1, e1.fresh r2, r3⟩
theorem de_blt (hc : CallD X ra (.builtin id) f) (hg : Gl X x) (hm : X.mg x = none) (hv : bootBuiltins x = some (.builtin id)) (ha : DA X ra E (e :: es) am) (hn : x ≠ "__name__" := by decide) (hdb : (x == ("__debug__" : Str)) = false := by decide)
    (he : starEach (e :: es) X.env = (false, eval e X.env) :: starEach es X.env := by rfl) (hpl : (backTo pos (starEach es X.env)).any (·.1) = false := by rfl) : DE X ra E (.Call (.Name x p) (e :: es) [] pos) (cBlt f am) := by
  obtain ⟨r, o, hr⟩ := hc
  exact PE.imp (pe_callB o hg hm hv ha hn hdb he hpl) fun σ H Q h => tCB_of hr h
theorem de_ty (hc : CallD X ra (.type T) f) (hg : Gl X x) (hm : X.mg x = none) (hv : bootBuiltins x = some (.type T)) (ha : DA X ra E (e :: es) am) (hn : x ≠ "__name__" := by decide) (hdb : (x == ("__debug__" : Str)) = false := by decide)
    (he : starEach (e :: es) X.env = (false, eval e X.env) :: starEach es X.env := by rfl) (hpl : (backTo pos (starEach es X.env)).any (·.1) = false := by rfl) : DE X ra E (.Call (.Name x p) (e :: es) [] pos) (cBlt f am) := by
  obtain ⟨r, o, hr⟩ := hc
  exact PE.imp (pe_callTy o hg hm hv ha hn hdb he hpl) fun σ H Q h => tCB_of hr h
theorem df_blt (hc : CallF X ra (.builtin id) g) (hg : Gl X x) (hm : X.mg x = none) (hv : bootBuiltins x = some (.builtin id)) (ha : DA X ra E (e :: es) am) (hn : x ≠ "__name__" := by decide) (hdb : (x == ("__debug__" : Str)) = false := by decide)
    (he : starEach (e :: es) X.env = (false, eval e X.env) :: starEach es X.env := by rfl) (hpl : (backTo pos (starEach es X.env)).any (·.1) = false := by rfl) : DF X ra E (.Call (.Name x p) (e :: es) [] pos) (fBlt g am) := by
  obtain ⟨r, o, hr⟩ := hc
  exact PE.imp (pe_callB o hg hm hv ha hn hdb he hpl) fun σ H Q h => tCBF_of hr h
theorem df_ty (hc : CallF X ra (.type T) g) (hg : Gl X x) (hm : X.mg x = none) (hv : bootBuiltins x = some (.type T)) (ha : DA X ra E (e :: es) am) (hn : x ≠ "__name__" := by decide) (hdb : (x == ("__debug__" : Str)) = false := by decide)
    (he : starEach (e :: es) X.env = (false, eval e X.env) :: starEach es X.env := by rfl) (hpl : (backTo pos (starEach es X.env)).any (·.1) = false := by rfl) : DF X ra E (.Call (.Name x p) (e :: es) [] pos) (fBlt g am) := by
  obtain ⟨r, o, hr⟩ := hc
  exact PE.imp (pe_callTy o hg hm hv ha hn hdb he hpl) fun σ H Q h => tCBF_of hr h
def orL {α : Type} (f g : List D → Option α) : List D → Option α := fun xs => match f xs with
  | some z => some z
  | none => g xs
theorem CallD.or {fn : Value} {f g : List D → Option D} (h : CallD X ra fn f) (k : CallD X ra fn g) : CallD X ra fn (orL f g) := by
  obtain ⟨r1, o1, q1⟩ := h
  obtain ⟨r2, o2, q2⟩ := k
  refine ⟨fun vs H Q => r1 vs H Q ∨ r2 vs H Q, fun pins s σ H xs us Q I r q => q.elim (o1 pins s σ H xs us Q I r) (o2 pins s σ H xs us Q I r), fun B H st xs z vs Q b d w rs e q => ?_⟩
  unfold orL at e
  split at e
  · rename_i z' e'
    cases e
    exact .inl (q1 B H st xs _ vs Q b d w rs e' q)
  · exact .inr (q2 B H st xs _ vs Q b d w rs e q)
end
end

/-! ### the operators on data -/
section
variable {X : Cx} {Tb : Tbs} {ra : RA Tb}
/-- two ints to an int, where C holds -/
def dII (C : Int → Int → Prop) [∀ i j, Decidable (C i j)] (g : Int → Int → D) : D → D → Option D
  | .int i, .int j => if C i j then some (g i j) else none
  | _, _ => none
theorem opD_I {fn : Value → Value → Sem Value} {C : Int → Int → Prop} [∀ i j, Decidable (C i j)] {g : Int → Int → V} {g' : Int → Int → D} (h : OpR X fn (rI C g)) (hg : ∀ i j H B, Rep (pr X ra) H B (g' i j) (g i j)) : OpD X ra fn (dII C g') := by
  refine ⟨_, h, fun B H st x y z vx vy Q b d w rx ry e q => ?_⟩
  unfold dII at e
  split at e
  · rename_i i j
    split at e
    · rename_i hc
      cases e
      exact ⟨i, j, rx, ry, hc, q _ H Ext.refl w (hg i j H B)⟩
    · cases e
  · cases e
theorem opD_I0 {fn : Value → Value → Sem Value} {g : Int → Int → V} {g' : Int → Int → D} (h : OpR X fn (rI0 g)) (hg : ∀ i j H B, Rep (pr X ra) H B (g' i j) (g i j)) : OpD X ra fn (dII (fun _ _ => True) g') := by
  refine ⟨_, h, fun B H st x y z vx vy Q b d w rx ry e q => ?_⟩
  unfold dII at e
  split at e
  · rename_i i j
    rw [if_pos trivial] at e
    cases e
    exact ⟨i, j, rx, ry, q _ H Ext.refl w (hg i j H B)⟩
  · cases e
instance (i j : Int) : Decidable (CDiv i j) := inferInstanceAs (Decidable (0 < j ∧ j < 1073741824))
instance (i j : Int) : Decidable (CDivN i j) := inferInstanceAs (Decidable (j ≠ 0 ∧ j.natAbs < 1073741824))
instance (i j : Int) : Decidable (CPow i j) := inferInstanceAs (Decidable (0 ≤ j ∧ j ≤ 1000000 ∧ i.natAbs < 2 ^ 64))
instance (i j : Int) : Decidable (CMul i j) := inferInstanceAs (Decidable ((-(2 ^ 64) < i ∧ i < 2 ^ 64) ∨ (-(2 ^ 64) < j ∧ j < 2 ^ 64)))
def xAddI : D → D → Option D := dII (fun _ _ => True) fun i j => .int (i + j)
def xSub : D → D → Option D := dII (fun _ _ => True) fun i j => .int (i - j)
def xMulI : D → D → Option D := dII CMul fun i j => .int (i * j)
def xDiv : D → D → Option D := dII CDiv fun i j => .int (i / j)
def xMod : D → D → Option D := dII (fun _ j => 0 < j) fun i j => .int (i % j)
def xPow : D → D → Option D := dII CPow fun i j => .int (i ^ j.toNat)
def xShl : D → D → Option D := dII CPow fun i j => .int (i * 2 ^ j.toNat)
def xShr : D → D → Option D := dII (fun _ j => 0 ≤ j) fun i j => .int (i / 2 ^ j.toNat)
def xBand : D → D → Option D := dII (fun _ _ => True) fun i j => .int (Builtin.bitAnd i j)
def xBxor : D → D → Option D := dII (fun _ _ => True) fun i j => .int (Builtin.bitXor i j)
theorem o_addI : OpD X ra (binaryOp .Add) xAddI := opD_I0 op_add fun _ _ _ _ => rfl
theorem o_sub : OpD X ra (binaryOp .Sub) xSub := opD_I0 op_sub fun _ _ _ _ => rfl
theorem o_mulI : OpD X ra (binaryOp .Mult) xMulI := opD_I op_mul fun _ _ _ _ => rfl
theorem o_div : OpD X ra (binaryOp .FloorDiv) xDiv := opD_I op_fdiv fun _ _ _ _ => rfl
theorem o_mod : OpD X ra (binaryOp .Mod) xMod := opD_I op_mod fun _ _ _ _ => rfl
theorem o_pow : OpD X ra (binaryOp .Pow) xPow := opD_I op_pow fun _ _ _ _ => rfl
theorem o_shl : OpD X ra (binaryOp .LShift) xShl := opD_I op_shl fun _ _ _ _ => rfl
theorem o_shr : OpD X ra (binaryOp .RShift) xShr := opD_I op_shr fun _ _ _ _ => rfl
theorem o_band : OpD X ra (binaryOp .BitAnd) xBand := opD_I0 op_and fun _ _ _ _ => rfl
theorem o_bxor : OpD X ra (binaryOp .BitXor) xBxor := opD_I0 op_xor fun _ _ _ _ => rfl
/-- texts -/
def xAddS : D → D → Option D
  | .str i, .str j => if i.length + j.length ≤ SZ then some (.str (i ++ j)) else none
  | _, _ => none
theorem o_addS : OpD X ra (binaryOp .Add) xAddS := by
  refine ⟨_, op_add_str, fun B H st x y z vx vy Q b d w rx ry e q => ?_⟩
  unfold xAddS at e
  split at e
  · rename_i i j
    split at e
    · rename_i hc
      cases e
      exact ⟨i, j, rx, ry, by rw [sz_eq]; exact hc, q _ H Ext.refl w rfl⟩
    · cases e
  · cases e
/-- tuples -/
def xAddT : D → D → Option D
  | .tup xs, .tup ys => if xs.length + ys.length ≤ SZ then some (.tup (xs ++ ys)) else none
  | _, _ => none
theorem o_addT : OpD X ra (binaryOp .Add) xAddT := by
  refine ⟨_, op_catA, fun B H st x y z vx vy Q b d w rx ry e q => ?_⟩
  unfold xAddT at e
  split at e
  · rename_i xs ys
    split at e
    · rename_i hc
      cases e
      obtain ⟨p, vs, rfl, h1, r1⟩ := rx
      obtain ⟨p2, vs2, rfl, h2, r2⟩ := ry
      refine ⟨p, p2, vs, vs2, rfl, rfl, h1, h2, by rw [sz_eq, r1.length, r2.length]; exact hc, fun z => ?_, fun _ z => ?_, fun _ _ t ht => ?_⟩
      · subst z
        have ez : xs = [] := by have := r1.length; simpa using this.symm
        subst ez
        exact q _ H Ext.refl w ⟨p2, vs2, rfl, h2, r2⟩
      · subst z
        have ez : ys = [] := by have := r2.length; simpa using this.symm
        subst ez
        exact q _ H Ext.refl w ⟨p, vs, rfl, h1, by rw [List.append_nil]; exact r1⟩
      · exact q _ _ (Ext.new ht) (w.new ht) ⟨t, _, rfl, SqT.of upd_same, (r1.append r2).ext (Ext.new ht) (sub_ra (P := pr X ra) b)⟩
    · cases e
  · cases e
/-- equality of data -/
def D.okEq (d : D) : Bool := d.plain && decide (d.py.depth ≤ 64) && d.py.canLay0
def xEq : D → D → Option D := fun x y => if (x.plain && SeqAt.shaped x.py && y.plain && SeqAt.shaped y.py) = true then some (.bl (PyData.eqv x.py y.py)) else none
def xNe : D → D → Option D := fun x y => if (x.plain && SeqAt.shaped x.py && y.plain && SeqAt.shaped y.py) = true then some (.bl (!PyData.eqv x.py y.py)) else none
theorem o_eq (hu : X.A.units + 64 < cLine) : OpD X ra (compareOp .Eq) xEq := by
  refine ⟨_, op_eqD hu, fun B H st x y z vx vy Q b d w rx ry e q => ?_⟩
  unfold xEq at e
  split at e
  · rename_i hc
    cases e
    simp only [Bool.and_eq_true] at hc
    exact ⟨_, _, Rep.dp _ _ hc.1.1.1 rx, Rep.dp _ _ hc.1.2 ry, hc.1.1.2, hc.2, q _ H Ext.refl w rfl⟩
  · cases e
theorem o_ne (hu : X.A.units + 64 < cLine) : OpD X ra (compareOp .NotEq) xNe := by
  refine ⟨_, op_neD hu, fun B H st x y z vx vy Q b d w rx ry e q => ?_⟩
  unfold xNe at e
  split at e
  · rename_i hc
    cases e
    simp only [Bool.and_eq_true] at hc
    exact ⟨_, _, Rep.dp _ _ hc.1.1.1 rx, Rep.dp _ _ hc.1.2 ry, hc.1.1.2, hc.2, q _ H Ext.refl w rfl⟩
  · cases e
def xLtI : D → D → Option D := dII (fun _ _ => True) fun i j => .bl (decide (i < j))
def xLeI : D → D → Option D := dII (fun _ _ => True) fun i j => .bl (decide (i ≤ j))
def xGtI : D → D → Option D := dII (fun _ _ => True) fun i j => .bl (decide (j < i))
def xGeI : D → D → Option D := dII (fun _ _ => True) fun i j => .bl (decide (j ≤ i))
theorem o_ltI : OpD X ra (compareOp .Lt) xLtI := opD_I0 op_lt fun _ _ _ _ => rfl
theorem o_leI : OpD X ra (compareOp .LtE) xLeI := opD_I0 op_le fun _ _ _ _ => rfl
theorem o_gtI : OpD X ra (compareOp .Gt) xGtI := opD_I0 op_gt fun _ _ _ _ => rfl
theorem o_geI : OpD X ra (compareOp .GtE) xGeI := opD_I0 op_ge fun _ _ _ _ => rfl
def D.isNon : D → Bool
  | .non => true
  | _ => false
def xIsN : D → D → Option D := fun x y => if y.isNon = true then some (.bl x.isNon) else none
def xNotN : D → D → Option D := fun x y => if y.isNon = true then some (.bl (!x.isNon)) else none
theorem rep_isNon {P : Par} {H : Hp} {B : Addr → Prop} {d : D} {v : V} (r : Rep P H B d v) : decide (v = .non) = d.isNon := by
  cases d with
  | non => rw [show v = .non from r]; rfl
  | bl k => rw [show v = .bl k from r]; rfl
  | int k => rw [show v = .int k from r]; rfl
  | str k => rw [show v = .str k from r]; rfl
  | tup xs => obtain ⟨a, _, rfl, _⟩ := r; rfl
  | lst xs => obtain ⟨a, _, rfl, _⟩ := r; rfl
  | dic ks xs => obtain ⟨a, _, _, rfl, _⟩ := r; rfl
  | obj c ns fs => obtain ⟨a, _, _, _, rfl, _⟩ := r; rfl
  | row => rw [show v = .ref P.ra from r]; rfl
  | cell a o => obtain ⟨rfl, _⟩ := r; rfl
  | fn x => obtain ⟨f, rfl, _⟩ := r; rfl
  | lam k => obtain ⟨f, rfl, _⟩ := r; rfl
theorem o_isN : OpD X ra (compareOp .Is) xIsN := by
  refine ⟨_, op_isN, fun B H st x y z vx vy Q b d w rx ry e q => ?_⟩
  unfold xIsN at e
  split at e
  · rename_i hc
    cases e
    have e2 := rep_isNon ry
    rw [hc] at e2
    refine ⟨of_decide_eq_true e2, ?_⟩
    rw [rep_isNon rx]
    exact q _ H Ext.refl w rfl
  · cases e
theorem o_notN : OpD X ra (compareOp .IsNot) xNotN := by
  refine ⟨_, op_notN, fun B H st x y z vx vy Q b d w rx ry e q => ?_⟩
  unfold xNotN at e
  split at e
  · rename_i hc
    cases e
    have e2 := rep_isNon ry
    rw [hc] at e2
    refine ⟨of_decide_eq_true e2, ?_⟩
    rw [rep_isNon rx]
    exact q _ H Ext.refl w rfl
  · cases e
end
end Ev

namespace Ev
open PySem PySem.Spec PyProof.Rows L2

/-! ### an exception is not let out -/
def Res.noX {α : Type} : Res α → Res α
  | .ok a st => .ok a st
  | _ => .stuck
@[simp] theorem Res.noX_ok {α : Type} (a : α) (st : DS) : (Res.ok a st).noX = .ok a st := rfl
theorem Post.inv {α γ δ : Type} {P : Par} {B : Addr → Prop} {H : Hp} {E : XK} {R' : Hp → γ → δ → Prop} {Q : δ → Hp → Prop} {r : Res α} {k : α → DS → Res γ} (h : Post P B H E R' Q (r.noX.bind k)) : ∃ a st1, r = .ok a st1 ∧ Post P B H E R' Q (k a st1) := by
  cases r with
  | ok a st1 => exact ⟨a, st1, rfl, h⟩
  | exc c fs st1 => exact h.elim
  | stuck => exact h.elim
theorem Post.run {α β : Type} {P : Par} {B : Addr → Prop} {H : Hp} {E : XK} {R : Hp → α → β → Prop} {T : β → Hp → Prop} {r : Res α} {a : α} {st1 : DS} (h : r = .ok a st1) (g : ∀ v H1, Ext (isRa P) H H1 → Row P H1 st1 → R H1 a v → T v H1) : Post P B H E R T r := by
  subst h
  exact g

/-! ### targets -/
inductive Tg where
  | nm (i : Nat)
  | tp (is : List Nat)
def setAll {α : Type} : List (Option α) → List (Nat × α) → List (Option α)
  | ρ, [] => ρ
  | ρ, (i, d) :: r => setAll (ρ.set i (some d)) r
def bindE : Tg → D → EE → Option EE
  | .nm i, d, ρ => some (ρ.set i (some d))
  | .tp is, .tup ds, ρ => if ds.length = is.length then some (setAll ρ (is.zip ds)) else none
  | .tp _, _, _ => none
def Tg.slots : Tg → List Nat
  | .nm i => [i]
  | .tp is => is
/-- slots and data beside one another -/
structure EnvR (P : Par) (H : Hp) (B : Addr → Prop) (σ : L2.St) (ρ : EE) : Prop where
  env : ∀ (i : Nat) (d : D), ρ[i]? = some (some d) → ∃ v, σ[i]? = some (some v) ∧ Rep P H B d v
  len : ρ.length ≤ σ.length
section
variable {P : Par} {H H' : Hp} {B : Addr → Prop} {σ : L2.St} {ρ : EE} {st : DS}
theorem Pre.er (p : Pre P B σ ρ H st) : EnvR P H B σ ρ := ⟨p.env, p.len⟩
theorem EnvR.pre (e : EnvR P H B σ ρ) (h1 : B P.ra) (h2 : ∀ b, B b → H b ≠ none) (h3 : Row P H st) : Pre P B σ ρ H st := ⟨h1, h2, h3, e.env, e.len⟩
theorem EnvR.set (e : EnvR P H B σ ρ) {i : Nat} {d : D} {v : V} (r : Rep P H B d v) : EnvR P H B (σ.set i (some v)) (ρ.set i (some d)) := by
  refine ⟨fun j x h => ?_, by simpa using e.len⟩
  by_cases hj : i = j
  · subst hj
    by_cases hl : i < ρ.length
    · rw [List.getElem?_set_self hl] at h
      cases h
      exact ⟨v, List.getElem?_set_self (Nat.lt_of_lt_of_le hl e.len), r⟩
    · rw [List.getElem?_eq_none (by simpa using hl)] at h
      cases h
  · rw [List.getElem?_set_ne hj] at h
    obtain ⟨w, a, b⟩ := e.env j x h
    exact ⟨w, by rw [List.getElem?_set_ne hj]; exact a, b⟩
theorem EnvR.unset (e : EnvR P H B σ ρ) {i : Nat} : EnvR P H B (σ.set i none) (ρ.set i none) := by
  refine ⟨fun j x h => ?_, by simpa using e.len⟩
  by_cases hj : i = j
  · subst hj
    by_cases hl : i < ρ.length
    · rw [List.getElem?_set_self hl] at h
      cases h
    · rw [List.getElem?_eq_none (by simpa using hl)] at h
      cases h
  · rw [List.getElem?_set_ne hj] at h
    obtain ⟨w, a, b⟩ := e.env j x h
    exact ⟨w, by rw [List.getElem?_set_ne hj]; exact a, b⟩
def wipeE (ρ : EE) : List Nat → EE
  | [] => ρ
  | v :: vs => (wipeE ρ vs).set v none
theorem EnvR.wipe (e : EnvR P H B σ ρ) : ∀ vs : List Nat, EnvR P H B (L2.wipe σ vs) (wipeE ρ vs)
  | [] => e
  | _ :: vs => (EnvR.wipe e vs).unset
theorem EnvR.sets : ∀ {is : List Nat} {ds : List D} {vs : List V} {σ : L2.St} {ρ : EE}, EnvR P H B σ ρ → Reps P H B ds vs → EnvR P H B (setAll σ (is.zip vs)) (setAll ρ (is.zip ds))
  | [], _, _, _, _, e, _ => e
  | _ :: _, [], _, _, _, e, r => by rw [show _ = [] from r]; exact e
  | i :: is, d :: ds, vs, _, _, e, r => by
    obtain ⟨v, w, rfl, h1, h2⟩ := r
    exact EnvR.sets (is := is) (e.set h1) h2
theorem EnvR.ext (e : EnvR P H B σ ρ) {C : Addr → Prop} (x : Ext C H H') (s : ∀ a, C a → B a) : EnvR P H' B σ ρ := ⟨fun i d h => by
  obtain ⟨v, a, b⟩ := e.env i d h
  exact ⟨v, a, b.ext x s⟩, e.len⟩
theorem EnvR.fresh (e : EnvR P H B σ ρ) {p : Addr} (h : H p = none) : EnvR P H (fun a => B a ∨ a = p) σ ρ := ⟨fun i d q => by
  obtain ⟨v, a, b⟩ := e.env i d q
  exact ⟨v, a, Rep.fresh h d v b⟩, e.len⟩
theorem EnvR.less (e : EnvR P H B σ ρ) {B' : Addr → Prop} (s : ∀ a, B' a → B a) : EnvR P H B' σ ρ := ⟨fun i d q => by
  obtain ⟨v, a, b⟩ := e.env i d q
  exact ⟨v, a, b.less s⟩, e.len⟩
end
theorem setAll_length {α : Type} : ∀ (σ : List (Option α)) (l : List (Nat × α)), (setAll σ l).length = σ.length
  | _, [] => rfl
  | σ, (i, d) :: r => by unfold setAll; rw [setAll_length, List.length_set]
theorem wipe_set {σ : L2.St} {i : Nat} {x : Option V} : ∀ {vs : List Nat}, i ∈ vs → L2.wipe (σ.set i x) vs = L2.wipe σ vs
  | [], h => by simp at h
  | v :: vs, h => by
    by_cases e : i = v
    · subst e
      unfold L2.wipe
      have : ∀ vs : List Nat, (L2.wipe (σ.set i x) vs).set i none = (L2.wipe σ vs).set i none := by
        intro vs
        induction vs with
        | nil => unfold L2.wipe; rw [List.set_set]
        | cons w vs ih =>
          unfold L2.wipe
          by_cases ew : w = i
          · subst ew; rw [ih]
          · rw [List.set_comm _ _ ew, ih, List.set_comm _ _ (Ne.symm ew)]
      exact this vs
    · rcases List.mem_cons.mp h with h | h
      · exact absurd h e
      · unfold L2.wipe; rw [wipe_set h]
theorem wipe_setAll : ∀ {l : List (Nat × V)} {σ : L2.St} {vs : List Nat}, (∀ p ∈ l, p.1 ∈ vs) → L2.wipe (setAll σ l) vs = L2.wipe σ vs
  | [], _, _, _ => rfl
  | (i, d) :: r, σ, vs, h => by
    unfold setAll
    rw [wipe_setAll fun p hp => h p (List.mem_cons_of_mem _ hp), wipe_set (h (i, d) List.mem_cons_self)]
theorem wipe_wipe (σ : L2.St) : ∀ vs us : List Nat, (∀ i ∈ vs, i ∈ us) → L2.wipe (L2.wipe σ vs) us = L2.wipe σ us
  | [], _, _ => rfl
  | v :: vs, us, h => by
    show L2.wipe ((L2.wipe σ vs).set v none) us = _
    rw [wipe_set (h v List.mem_cons_self), wipe_wipe σ vs us fun i hi => h i (List.mem_cons_of_mem _ hi)]

section
variable {X : Cx} {Tb : Tbs} {ra : RA Tb} {E : XK}
/-- a target's store: outside of its slots nothing changes -/
def TgOk (X : Cx) {Tb : Tbs} (ra : RA Tb) (tg : Expr) (t : Tg) : Prop :=
  ∃ g : TG, PG X tg g ∧ ∀ (B : Addr → Prop) (σ : L2.St) (ρ ρ' : EE) (H : Hp) (d : D) (v : V) (Q : L2.St → Hp → Prop), EnvR (pr X ra) H B σ ρ → Rep (pr X ra) H B d v → bindE t d ρ = some ρ' →
    (∀ σ', EnvR (pr X ra) H B σ' ρ' → (∀ vs : List Nat, (∀ i ∈ t.slots, i ∈ vs) → L2.wipe σ' vs = L2.wipe σ vs) → Q σ' H) → g v σ H Q
theorem tg_nm {i : Nat} {x : Str} {pos : Pos} (h : PG X (.Name x pos) (gName i)) : TgOk X ra (.Name x pos) (.nm i) := by
  refine ⟨_, h, fun B σ ρ ρ' H d v Q e r b q => ?_⟩
  cases b
  exact q _ (e.set r) fun vs hv => wipe_set (hv i (by simp [Tg.slots]))
/-- names one after another -/
inductive NmsOk (X : Cx) : List Expr → List Nat → Prop
  | nil : NmsOk X [] []
  | cons {x : Str} {pos : Pos} {i : Nat} {es : List Expr} {is : List Nat} : PG X (.Name x pos) (gName i) → NmsOk X es is → (assignEach (.Name x pos :: es) X.env).map (·.2) = assign (.Name x pos) X.env :: (assignEach es X.env).map (·.2) → NmsOk X (.Name x pos :: es) (i :: is)
def gAll : List Nat → TGs
  | [] => gNil
  | i :: is => gCons (gName i) (gAll is)
theorem NmsOk.pgs : ∀ {es : List Expr} {is : List Nat}, NmsOk X es is → PGs X es (gAll is)
  | _, _, .nil => pgs_nil
  | _, _, .cons h t e => pgs_cons h (NmsOk.pgs t) e
theorem gAll_of : ∀ {is : List Nat} {vs : List V} {σ : L2.St} {H : Hp} {Q : L2.St → Hp → Prop}, vs.length = is.length → Q (setAll σ (is.zip vs)) H → gAll is vs σ H Q
  | [], [], _, _, _, _, q => ⟨rfl, q⟩
  | [], _ :: _, _, _, _, h, _ => by simp at h
  | _ :: _, [], _, _, _, h, _ => by simp at h
  | i :: is, v :: vs, _, _, _, h, q => ⟨v, vs, rfl, gAll_of (by simpa using h) q⟩
theorem tg_tp {es : List Expr} {is : List Nat} {k : Nat} {pos : Pos} (hc : X.calm = true) (h : NmsOk X es is) (hn : (assignEach es X.env).length = is.length := by rfl) (hst : (assignEach es X.env).findIdx? (·.1) = none := by rfl) : TgOk X ra (.Tuple es k pos) (.tp is) := by
  refine ⟨_, pg_tup (n := is.length) hc h.pgs hn hst, fun B σ ρ ρ' H d v Q e r b q => ?_⟩
  cases d with
  | tup ds =>
    have b : (if ds.length = is.length then some (setAll ρ (is.zip ds)) else none) = some ρ' := b
    split at b
    · rename_i hl
      cases b
      obtain ⟨a, vs, rfl, s, rs⟩ := r
      refine ⟨a, vs, rfl, s, by rw [rs.length]; exact hl, gAll_of (by rw [rs.length]; exact hl) (q _ (e.sets rs) fun us hu => wipe_setAll fun p hp => hu p.1 ?_)⟩
      exact (List.of_mem_zip hp).1
    · cases b
  | _ => cases b

/-! ### what is walked -/
def TRep (P : Par) (H : Hp) (B : Addr → Prop) (τ : List (D × V)) : Prop := ∀ t ∈ τ, Rep P H B t.1 t.2
/-- a turn of a walk: nothing new, one new tuple, or two -/
inductive Yl (H H' : Hp) : Prop where
  | inl (h : H' = H)
  | inr (h : ∃ p vs, H p = none ∧ H' = upd H p (.tup vs))
  | two (h : ∃ p vs q ws, H p = none ∧ upd H p (.tup vs) q = none ∧ H' = upd (upd H p (.tup vs)) q (.tup ws))
structure Walks (P : Par) (J : It) (τ : List (D × V)) (ds : List D) : Prop where
  goes : ∀ i H B, i < ds.length → TRep P H B τ → J.go i H
  stops : ∀ H B, TRep P H B τ → J.stop ds.length H
  yields : ∀ i H x H' B d, TRep P H B τ → ds[i]? = some d → J.yld i H x H' → Yl H H' ∧ Rep P H' B d x
def tI (X : Cx) {Tb : Tbs} (ra : RA Tb) (E : XK) (m : AM) : TI := fun σ H R => ∃ B ρ st, Pre (pr X ra) B σ ρ H st ∧ Post (pr X ra) B H E (fun H' ds (J : It) => ∃ τ, Walks (pr X ra) J τ ds ∧ TRep (pr X ra) H' B τ) R (m ρ st)
abbrev DI (X : Cx) {Tb : Tbs} (ra : RA Tb) (E : XK) (tg iter : Expr) (m : AM) : Prop := PI X tg iter (tI X ra E m)
theorem PI.imp {tg iter : Expr} {t t' : TI} (h : PI X tg iter t) (k : ∀ σ H R, t' σ H R → t σ H R) : PI X tg iter t' := ⟨fun pins s σ H R I q => h.run pins s σ H R I (k σ H R q)⟩
theorem TRep.ext {P : Par} {H H' : Hp} {B C : Addr → Prop} {τ : List (D × V)} (h : TRep P H B τ) (e : Ext C H H') (s : ∀ a, C a → B a) : TRep P H' B τ := fun t m => (h t m).ext e s
theorem TRep.fresh {P : Par} {H : Hp} {B : Addr → Prop} {τ : List (D × V)} (h : TRep P H B τ) {p : Addr} (hp : H p = none) : TRep P H (fun a => B a ∨ a = p) τ := fun t m => Rep.fresh hp _ _ (h t m)
theorem sqT_inj {K : PySem.W.Frag} {H : Hp} {a : Addr} {xs ys : List V} (h : ∀ b o, K.lookup b = some o → H b = none) (h1 : SqT K H a xs) (h2 : SqT K H a ys) : xs = ys := by
  rcases h1 with (h1 | ⟨o1, h1⟩) | ⟨o1, its1, n1, k1, c1, d1, z1, v1⟩
  · rcases h2 with (h2 | ⟨o2, h2⟩) | ⟨o2, its2, n2, k2, c2, d2, z2, v2⟩
    · rw [h1] at h2; cases h2; rfl
    · rw [h1] at h2; cases h2
    · rw [h a _ k2] at h1; cases h1
  · rcases h2 with (h2 | ⟨o2, h2⟩) | ⟨o2, its2, n2, k2, c2, d2, z2, v2⟩
    · rw [h1] at h2; cases h2
    · rw [h1] at h2; cases h2; rfl
    · rw [h a _ k2] at h1; cases h1
  · rcases h2 with (h2 | ⟨o2, h2⟩) | ⟨o2, its2, n2, k2, c2, d2, z2, v2⟩
    · rw [h a _ k1] at h2; cases h2
    · rw [h a _ k1] at h2; cases h2
    · rw [k1] at k2; cases k2
      rw [d1] at d2
      injection d2 with e1 _
      subst e1
      exact v1.inj v2
variable {e iter : Expr} {es : List Expr} {m : EM} {am : AM} {tg : Expr} {pos p : Pos}
/-- a list, a tuple -/
def iSeq (m : EM) : AM := fun ρ st => (m ρ st).bind fun d st1 => match d with
  | .lst xs => .ok xs st1
  | .tup xs => .ok xs st1
  | _ => .stuck
def iLst (m : EM) : AM := fun ρ st => (m ρ st).bind fun d st1 => match d with
  | .lst xs => .ok xs st1
  | _ => .stuck
def iTupl (m : EM) : AM := fun ρ st => (m ρ st).bind fun d st1 => match d with
  | .tup xs => .ok xs st1
  | _ => .stuck
theorem walks_lst {P : Par} {a : Addr} {xs : List D} {K : PySem.W.Frag} (hK : K = P.K) : Walks P (Itl K a) [(.lst xs, .ref a)] xs where
  goes i H B hi t := by
    obtain ⟨b, vs, eb, h, _, r⟩ := t _ (List.mem_singleton.mpr rfl)
    cases eb
    obtain ⟨v, hv, _⟩ := r.get (List.getElem?_eq_getElem hi)
    exact ⟨vs, v, SqL.of h, hv⟩
  stops H B t := by
    obtain ⟨b, vs, eb, h, _, r⟩ := t _ (List.mem_singleton.mpr rfl)
    cases eb
    exact ⟨vs, SqL.of h, Nat.le_of_eq r.length⟩
  yields i H x H' B d t hd y := by
    obtain ⟨b, vs, eb, h, _, r⟩ := t _ (List.mem_singleton.mpr rfl)
    cases eb
    obtain ⟨v, hv, rv⟩ := r.get hd
    obtain ⟨e1, e2⟩ := y
    have e3 := e2 vs (SqL.of h)
    rw [hv] at e3
    cases e3
    subst e1
    exact ⟨.inl rfl, rv⟩
theorem walks_tup {P : Par} {a : Addr} {xs : List D} {K : PySem.W.Frag} (hK : K = P.K) : Walks P (Itt K a) [(.tup xs, .ref a)] xs where
  goes i H B hi t := by
    obtain ⟨b, vs, eb, h, r⟩ := t _ (List.mem_singleton.mpr rfl)
    cases eb
    obtain ⟨v, hv, _⟩ := r.get (List.getElem?_eq_getElem hi)
    subst hK
    exact ⟨vs, v, h, hv⟩
  stops H B t := by
    obtain ⟨b, vs, eb, h, r⟩ := t _ (List.mem_singleton.mpr rfl)
    cases eb
    subst hK
    exact ⟨vs, h, Nat.le_of_eq r.length⟩
  yields i H x H' B d t hd y := by
    obtain ⟨b, vs, eb, h, r⟩ := t _ (List.mem_singleton.mpr rfl)
    cases eb
    subst hK
    obtain ⟨v, hv, rv⟩ := r.get hd
    obtain ⟨e1, e2⟩ := y
    have e3 := e2 vs h
    rw [hv] at e3
    cases e3
    subst e1
    exact ⟨.inl rfl, rv⟩
theorem di_lst (h : DE X ra E e m) : DI X ra E tg e (iLst m) :=
  PI.imp (pi_list h) fun σ H R ⟨B, ρ, st, p, q⟩ => ⟨B, ρ, st, p, Post.seq q fun d st1 v H1 _ e1 w1 r q1 => by
    cases d with
    | lst xs =>
      obtain ⟨a, vs, rfl, s, n, rs⟩ := id r
      exact ⟨a, rfl, ⟨vs, SqL.of s⟩, q1 _ H1 Ext.refl w1 ⟨_, walks_lst rfl, fun t m => by rw [List.mem_singleton.mp m]; exact r⟩⟩
    | _ => exact q1.elim⟩
theorem di_tup (h : DE X ra E e m) : DI X ra E tg e (iTupl m) :=
  PI.imp (pi_tup h) fun σ H R ⟨B, ρ, st, p, q⟩ => ⟨B, ρ, st, p, Post.seq q fun d st1 v H1 _ e1 w1 r q1 => by
    cases d with
    | tup xs =>
      obtain ⟨a, vs, rfl, s, rs⟩ := id r
      exact ⟨a, rfl, ⟨vs, s⟩, q1 _ H1 Ext.refl w1 ⟨_, walks_tup rfl, fun t m => by rw [List.mem_singleton.mp m]; exact r⟩⟩
    | _ => exact q1.elim⟩
/-- range(n), range(a, b) -/
def rangeD (a b : Int) : List D := (List.range (b - a).toNat).map fun i => .int (a + (i : Nat))
theorem walks_range {P : Par} {lo hi : Int} : Walks P (Itr lo (hi - lo).toNat) [] (rangeD lo hi) where
  goes i H B h _ := by
    unfold rangeD at h
    rw [List.length_map, List.length_range] at h
    exact h
  stops H B _ := by
    unfold rangeD
    rw [List.length_map, List.length_range]
    exact Nat.le_refl _
  yields i H x H' B d _ hd y := by
    obtain ⟨e1, e2⟩ := y
    subst e1 e2
    refine ⟨.inl rfl, ?_⟩
    unfold rangeD at hd
    rw [List.getElem?_map] at hd
    cases hr : (List.range (hi - lo).toNat)[i]? with
    | none => rw [hr] at hd; cases hd
    | some j =>
      rw [hr] at hd
      cases hd
      obtain ⟨hlt, he⟩ := List.getElem?_eq_some_iff.mp hr
      rw [List.getElem_range] at he
      subst he
      exact rfl
theorem rep_int {P : Par} {H : Hp} {B : Addr → Prop} {i : Int} {v : V} (h : Rep P H B (.int i) v) : v = .int i := h
def iRange1 (am : AM) : AM := fun ρ st => (am ρ st).bind fun ds st1 => match ds with
  | [.int j] => if -(2 ^ 62) ≤ j ∧ j < 2 ^ 62 then .ok (rangeD 0 j) st1 else .stuck
  | _ => .stuck
def iRange2 (am : AM) : AM := fun ρ st => (am ρ st).bind fun ds st1 => match ds with
  | [.int i, .int j] => if -(2 ^ 62) ≤ i ∧ i < 2 ^ 62 ∧ -(2 ^ 62) ≤ j ∧ j < 2 ^ 62 then .ok (rangeD i j) st1 else .stuck
  | _ => .stuck
theorem di_range1 (hg : Gl X "range") (hm : X.mg "range" = none) (ha : DA X ra E [e] am) (hs : starEach [e] X.env = [(false, eval e X.env)] := by rfl) : DI X ra E tg (.Call (.Name "range" p) [e] [] pos) (iRange1 am) :=
  PI.imp (pi_range1 hg hm ha hs) fun σ H R ⟨B, ρ, st, p, q⟩ => ⟨B, ρ, st, p, Post.seq q fun ds st1 vs H1 hq e1 w1 rs q1 => by
    clear hq
    split at q1
    · rename_i j
      split at q1
      · rename_i hj
        obtain ⟨v, w, rfl, h1, h2⟩ := rs
        cases (show v = V.int j from h1)
        cases (show w = [] from h2)
        refine ⟨j, rfl, hj.1, hj.2, q1 _ H1 Ext.refl w1 ⟨[], ?_, fun t m => by simp at m⟩⟩
        have e := walks_range (P := pr X ra) (lo := 0) (hi := j)
        rwa [Int.sub_zero] at e
      · exact q1.elim
    · exact q1.elim⟩
theorem di_range2 {e2 : Expr} (hg : Gl X "range") (hm : X.mg "range" = none) (ha : DA X ra E [e, e2] am) (hs : starEach [e, e2] X.env = [(false, eval e X.env), (false, eval e2 X.env)] := by rfl) (hs2 : starEach [e2] X.env = [(false, eval e2 X.env)] := by rfl) : DI X ra E tg (.Call (.Name "range" p) [e, e2] [] pos) (iRange2 am) :=
  PI.imp (pi_range2 hg hm ha hs hs2) fun σ H R ⟨B, ρ, st, p, q⟩ => ⟨B, ρ, st, p, Post.seq q fun ds st1 vs H1 hq e1 w1 rs q1 => by
    clear hq
    split at q1
    · rename_i i j
      split at q1
      · rename_i hj
        obtain ⟨v, w, rfl, h1, h2⟩ := rs
        obtain ⟨v2, w2, rfl, h3, h4⟩ := h2
        cases (show v = V.int i from h1)
        cases (show v2 = V.int j from h3)
        cases (show w2 = [] from h4)
        exact ⟨i, j, rfl, hj, q1 _ H1 Ext.refl w1 ⟨[], walks_range, fun t m => by simp at m⟩⟩
      · exact q1.elim
    · exact q1.elim⟩
end
end Ev

namespace Ev
open PySem PySem.Spec PyProof.Rows L2

/-! ### comprehensions -/
abbrev E0' : XK := fun _ _ _ => False
def compL (vs : List Nat) (tg : Tg) (tt : TM) (te : EM) (ρ : EE) : List D → DS → Res (List D)
  | [], st => .ok [] st
  | d :: ds, st => match bindE tg d (wipeE ρ vs) with
    | none => .stuck
    | some ρ' => (tt ρ' st).noX.bind fun b st1 => if b = true then (te ρ' st1).noX.bind fun y st2 => (compL vs tg tt te ρ ds st2).bind fun ys st3 => .ok (y :: ys) st3 else compL vs tg tt te ρ ds st1
def fComp (vs : List Nat) (tg : Tg) (it : AM) (tt : TM) (te : EM) : AM := fun ρ st => (it ρ st).bind fun ds st1 => if ds.length ≤ SZ then compL vs tg tt te ρ ds st1 else .stuck
def tYesM : TM := fun _ st => .ok true st
theorem Ext.updNew {B : Addr → Prop} {H0 H : Hp} {p : Addr} {o : HO} (e : Ext B H0 H) (h : H0 p = none) : Ext B H0 (upd H p o) :=
  ⟨fun a u q n t => by rw [upd_ne (ne_of_none q h)]; exact e.keep a u q n t, fun a q => by
    by_cases z : a = p
    · rw [z, upd_same]; exact fun z => nomatch z
    · rw [upd_ne z]; exact e.dom a q⟩
/-- a thing that may be changed is changed -/
theorem Ext.updMt {H : Hp} {p : Addr} {u o : HO} (h : H p = some u) (m : Mt u) : Ext (fun a => a = p) H (upd H p o) :=
  ⟨fun a w q n _ => by
    by_cases z : a = p
    · subst z
      rw [h] at q
      cases q
      exact absurd ⟨rfl, m⟩ n
    · rw [upd_ne z]; exact q, fun a q => by
    by_cases z : a = p
    · rw [z, upd_same]; exact fun z => nomatch z
    · rw [upd_ne z]; exact q⟩
theorem tYes_of {X : Cx} {Tb : Tbs} {ra : RA Tb} {E : XK} {σ : L2.St} {H : Hp} {Q : Bool → Hp → Prop} (h : tT X ra E tYesM σ H Q) : tYes σ H Q := by
  obtain ⟨B, ρ, st, p, q⟩ := h
  exact q true H Ext.refl p.row rfl
section
variable {X : Cx} {Tb : Tbs} {ra : RA Tb} {E : XK}
abbrev Blk (X : Cx) (s : Shared) (H : Hp) (C : Addr) (cl : List (Str × Addr)) (fp : List Addr) (scope : Scope) : Cx := X.blk s H scope (compEnvC scope cl C X.env) fp
theorem PTs.imp {es : List Expr} {t t' : TT} (h : PTs X es t) (k : ∀ σ H Q, t' σ H Q → t σ H Q) : PTs X es t' := ⟨fun pins s σ H Q I q => h.run pins s σ H Q I (k σ H Q q)⟩
abbrev DTs (X : Cx) {Tb : Tbs} (ra : RA Tb) (E : XK) (es : List Expr) (m : TM) : Prop := PTs X es (tT X ra E m)
theorem dts_nil : DTs X ra E [] tYesM := PTs.imp pts_nil fun _ _ _ h => tYes_of h
theorem dts_one {e : Expr} {m : TM} (h : DT X ra E e m) : DTs X ra E [e] m := pts_one h
/-- the target within any block -/
def TgIn (X : Cx) {Tb : Tbs} (ra : RA Tb) (scope : Scope) (tg : Expr) (t : Tg) : Prop :=
  ∃ g : TG, (∀ (s : Shared) (H : Hp) (C : Addr) (cl : List (Str × Addr)) (fp : List Addr), PG (Blk X s H C cl fp scope) tg g) ∧ ∀ (B : Addr → Prop) (σ : L2.St) (ρ ρ' : EE) (H : Hp) (d : D) (v : V) (Q : L2.St → Hp → Prop), EnvR (pr X ra) H B σ ρ → Rep (pr X ra) H B d v → bindE t d ρ = some ρ' →
    (∀ σ', EnvR (pr X ra) H B σ' ρ' → (∀ vs : List Nat, (∀ i ∈ t.slots, i ∈ vs) → L2.wipe σ' vs = L2.wipe σ vs) → Q σ' H) → g v σ H Q
theorem tgIn_nm {scope : Scope} {i : Nat} {x : Str} {pos : Pos} (h : ∀ (s : Shared) (H : Hp) (C : Addr) (cl : List (Str × Addr)) (fp : List Addr), PG (Blk X s H C cl fp scope) (.Name x pos) (gName i)) : TgIn X ra scope (.Name x pos) (.nm i) := by
  refine ⟨_, h, fun B σ ρ ρ' H d v Q e r b q => ?_⟩
  cases b
  exact q _ (e.set r) fun vs hv => wipe_set (hv i (by simp [Tg.slots]))
theorem tgIn_tp {scope : Scope} {es : List Expr} {is : List Nat} {k : Nat} {pos : Pos} (hc : X.calm = true) (h : ∀ (s : Shared) (H : Hp) (C : Addr) (cl : List (Str × Addr)) (fp : List Addr), NmsOk (Blk X s H C cl fp scope) es is)
    (hn : ∀ env, (assignEach es env).length = is.length := by intro _; rfl) (hst : ∀ env, (assignEach es env).findIdx? (·.1) = none := by intro _; rfl) : TgIn X ra scope (.Tuple es k pos) (.tp is) := by
  refine ⟨gTup X.K is.length (gAll is), fun s H C cl fp => pg_tup (n := is.length) hc (h s H C cl fp).pgs (hn _) (hst _), fun B σ ρ ρ' H d v Q e r b q => ?_⟩
  cases d with
  | tup ds =>
    have b : (if ds.length = is.length then some (setAll ρ (is.zip ds)) else none) = some ρ' := b
    split at b
    · rename_i hl
      cases b
      obtain ⟨a, vs, rfl, s, rs⟩ := r
      refine ⟨a, vs, rfl, s, by rw [rs.length]; exact hl, gAll_of (by rw [rs.length]; exact hl) (q _ (e.sets rs) fun us hu => wipe_setAll fun p hp => hu p.1 ?_)⟩
      exact (List.of_mem_zip hp).1
    · cases b
  | _ => cases b

theorem yield_ext {P : Par} {B : Addr → Prop} {H H' : Hp} (h : Yl H H') : Ext B H H' := by
  rcases h with rfl | ⟨p, vs, hn, rfl⟩ | ⟨p, vs, q, ws, hn, hq, rfl⟩
  · exact Ext.refl
  · exact Ext.new hn
  · exact (Ext.new hn).trans (Ext.new hq)
theorem yield_row {P : Par} {st : DS} {H H' : Hp} (h : Yl H H') (r : Row P H st) : Row P H' st := by
  rcases h with rfl | ⟨p, vs, hn, rfl⟩ | ⟨p, vs, q, ws, hn, hq, rfl⟩
  · exact r
  · exact r.new hn
  · exact (r.new hn).new hq
/-- one for: the reading -/
theorem comp_of {own : List (Str × Nat)} {t : Tg} {it : AM} {tt : TM} {te : EM} {g : TG} (hgq : ∀ (B : Addr → Prop) (σ : L2.St) (ρ ρ' : EE) (H : Hp) (d : D) (v : V) (Q : L2.St → Hp → Prop), EnvR (pr X ra) H B σ ρ → Rep (pr X ra) H B d v → bindE t d ρ = some ρ' →
    (∀ σ', EnvR (pr X ra) H B σ' ρ' → (∀ vs : List Nat, (∀ i ∈ t.slots, i ∈ vs) → L2.wipe σ' vs = L2.wipe σ vs) → Q σ' H) → g v σ H Q) (hsl : ∀ i ∈ t.slots, i ∈ own.map (·.2)) {σ : L2.St} {H : Hp} {Q : VK} (h : tF X ra E (fComp (own.map (·.2)) t it tt te) σ H Q) :
    tLc (tI X ra E it) g (tT X ra E0' tt) (tD X ra E0' te) (own.map (·.2)) σ H Q := by
  obtain ⟨B, ρ, st, p, q⟩ := h
  refine ⟨B, ρ, st, p, Post.seq q fun ds st1 J H1 _ e1 w1 hw q1 => ?_⟩
  obtain ⟨τ, W, tr⟩ := hw
  intro Dl hD
  have hDB : ¬ B Dl := fun z => (p.ext e1 w1).dom Dl z hD
  have hDr : Dl ≠ ra.a := fun z => hDB (by rw [z]; exact p.bra)
  by_cases hz : ds.length ≤ SZ
  · rw [if_pos hz] at q1
    refine lc_it (J := J) (n := ds.length) (G := fun H' => TRep (pr X ra) H' (fun a => B a ∨ a = Dl) τ) (Y := fun i H x H' => J.yld i H x H') ⟨fun i H hi t => W.goes i H _ hi t, fun H t => W.stops H _ t, fun i H x H' hi t y => y⟩
      (fun i H' => ∃ st' done vs, EnvR (pr X ra) H' (fun a => B a ∨ a = Dl) σ ρ ∧ Row (pr X ra) H' st' ∧ (∀ b, B b → H' b ≠ none) ∧ TRep (pr X ra) H' (fun a => B a ∨ a = Dl) τ ∧ H' Dl = some (.lst vs) ∧ Reps (pr X ra) H' (fun a => B a ∨ a = Dl) done vs ∧ vs.length ≤ i ∧ Ext (isRa (pr X ra)) H1 H' ∧
        Post (pr X ra) B H1 E (FR (pr X ra) H B) Q ((compL (own.map (·.2)) t tt te ρ (ds.drop i) st').bind fun ys st3 => .ok (done ++ ys) st3))
      ⟨st1, [], [], ((p.ext e1 w1).er.fresh hD).ext (Ext.new (B := fun _ => False) hD) (fun _ z => z.elim), w1.new hD, fun b z => (Ext.new (B := fun _ => False) hD).dom b ((p.ext e1 w1).dom b z), (tr.fresh hD).ext (Ext.new (B := fun _ => False) hD) (fun _ z => z.elim), upd_same, Reps.nil, Nat.le_refl _, Ext.new hD, ?_⟩
      (fun i H' hi ⟨st', done, vs, a1, a2, a3, a4, _⟩ => a4) ?_ ?_
    · rw [List.drop_zero]
      cases hr : compL (own.map (·.2)) t tt te ρ ds st1 with
      | ok ys st3 => rw [hr] at q1; exact q1
      | exc c fs st3 => rw [hr] at q1; exact q1
      | stuck => rw [hr] at q1; exact q1
    · rintro i x H2 H3 hi ⟨st', done, vs, a1, a2, a3, a4, a5, a6, a7, a8, a9⟩ y
      obtain ⟨d, hd⟩ : ∃ d, ds[i]? = some d := ⟨_, List.getElem?_eq_getElem hi⟩
      obtain ⟨y1, y2⟩ := W.yields i H2 x H3 _ d a4 hd y
      have ed : ds.drop i = d :: ds.drop (i + 1) := by
        obtain ⟨hlt, e⟩ := List.getElem?_eq_some_iff.mp hd
        rw [List.drop_eq_getElem_cons hlt, e]
      rw [ed] at a9
      have x3 : Ext (fun _ => False) H2 H3 := yield_ext (P := pr X ra) y1
      have s0 : ∀ a, (fun _ : Addr => False) a → (B a ∨ a = Dl) := fun _ z => z.elim
      have b1 := (a1.ext x3 s0).wipe (own.map (·.2))
      cases hb : bindE t d (wipeE ρ (own.map (·.2))) with
      | none =>
        unfold compL at a9
        rw [hb] at a9
        exact a9.elim
      | some ρ' =>
        unfold compL at a9
        rw [hb] at a9
        have a9 : Post (pr X ra) B H1 E (FR (pr X ra) H B) Q (((tt ρ' st').noX.bind fun b st1 => if b = true then (te ρ' st1).noX.bind fun y st2 => (compL (own.map (·.2)) t tt te ρ (ds.drop (i + 1)) st2).bind fun ys st3 => .ok (y :: ys) st3 else compL (own.map (·.2)) t tt te ρ (ds.drop (i + 1)) st1).bind fun ys st3 => .ok (done ++ ys) st3) := a9
        obtain ⟨bt, st2, hbt⟩ : ∃ b st1, tt ρ' st' = .ok b st1 := by
          cases hr : tt ρ' st' with
          | ok b st1 => exact ⟨b, st1, rfl⟩
          | exc c fs st1 => rw [hr] at a9; exact a9.elim
          | stuck => rw [hr] at a9; exact a9.elim
        rw [hbt] at a9
        have dom3 : ∀ b, (B b ∨ b = Dl) → H3 b ≠ none := fun b z => z.elim (fun z => x3.dom b (a3 b z)) fun z => x3.dom b (by rw [z, a5]; exact fun z => nomatch z)
        refine hgq _ _ _ _ H3 d x _ b1 y2 hb fun σ2 er2 hwp => ⟨?_, ?_⟩
        · rw [hwp _ hsl, wipe_wipe _ _ _ (fun i z => z)]
        · refine ⟨fun a => B a ∨ a = Dl, ρ', st', er2.pre (.inl p.bra) dom3 (yield_row y1 a2), Post.run hbt fun kb H4 e4 w4 rb => ?_⟩
          have rb : kb = bt := rb
          subst rb
          have ra4 : ∀ a, isRa (pr X ra) a → (B a ∨ a = Dl) := fun a z => .inl (by rw [z]; exact p.bra)
          have x4 : Ext (isRa (pr X ra)) H2 H4 := (yield_ext (P := pr X ra) y1).trans e4
          have keep4 : H4 Dl = some (.lst vs) := x4.keep _ _ a5 (fun z => hDr z.1) trivial
          cases kb with
          | false =>
            rw [if_neg Bool.false_ne_true]
            exact ⟨st2, done, vs, a1.ext x4 ra4, w4, fun b z => x4.dom b (a3 b z), a4.ext x4 ra4, keep4, a6.ext x4 ra4, Nat.le_succ_of_le a7, a8.trans x4, a9⟩
          | true =>
            rw [if_pos rfl]
            have a9 : Post (pr X ra) B H1 E (FR (pr X ra) H B) Q (((te ρ' st2).noX.bind fun y st2 => (compL (own.map (·.2)) t tt te ρ (ds.drop (i + 1)) st2).bind fun ys st3 => .ok (y :: ys) st3).bind fun ys st3 => .ok (done ++ ys) st3) := a9
            obtain ⟨yd, st3, hy⟩ : ∃ b st1, te ρ' st2 = .ok b st1 := by
              cases hr : te ρ' st2 with
              | ok b st1 => exact ⟨b, st1, rfl⟩
              | exc c fs st1 => rw [hr] at a9; exact a9.elim
              | stuck => rw [hr] at a9; exact a9.elim
            rw [hy] at a9
            have a9 : Post (pr X ra) B H1 E (FR (pr X ra) H B) Q (((compL (own.map (·.2)) t tt te ρ (ds.drop (i + 1)) st3).bind fun ys st3 => .ok (yd :: ys) st3).bind fun ys st3 => .ok (done ++ ys) st3) := a9
            refine ⟨fun a => B a ∨ a = Dl, ρ', st2, (er2.ext e4 ra4).pre (.inl p.bra) (fun b z => e4.dom b (dom3 b z)) w4, Post.run hy fun yv H5 e5 w5 ry => ?_⟩
            have x5 : Ext (isRa (pr X ra)) H2 H5 := x4.trans e5
            have keep5 : H5 Dl = some (.lst vs) := x5.keep _ _ a5 (fun z => hDr z.1) trivial
            refine ⟨vs, keep5, by rw [sz_eq]; omega, ?_⟩
            have xu : Ext (fun a => a = Dl) H5 (upd H5 Dl (.lst (vs ++ [yv]))) := Ext.updMt keep5 trivial
            have su : ∀ a, (fun a => a = Dl) a → (B a ∨ a = Dl) := fun a z => .inr z
            refine ⟨st3, done ++ [yd], vs ++ [yv], (a1.ext x5 ra4).ext xu su, w5.upd hDr (.inr ⟨_, keep5, trivial⟩), fun b z => xu.dom b (x5.dom b (a3 b z)), (a4.ext x5 ra4).ext xu su, upd_same, ((a6.ext x5 ra4).append (Reps.one ry)).ext xu su, by rw [List.length_append]; show vs.length + 1 ≤ i + 1; omega, (a8.trans x5).updNew hD, ?_⟩
            cases hr : compL (own.map (·.2)) t tt te ρ (ds.drop (i + 1)) st3 with
            | ok ys st4 =>
              rw [hr] at a9
              have a9 : Post (pr X ra) B H1 E (FR (pr X ra) H B) Q (.ok (done ++ (yd :: ys)) st4) := a9
              rw [show done ++ (yd :: ys) = (done ++ [yd]) ++ ys by simp] at a9
              exact a9
            | exc c fs st4 => rw [hr] at a9; exact a9
            | stuck => rw [hr] at a9; exact a9
    · rintro H2 ⟨st', done, vs, a1, a2, a3, a4, a5, a6, a7, a8, a9⟩
      rw [List.drop_length] at a9
      have a9 : Post (pr X ra) B H1 E (FR (pr X ra) H B) Q (.ok (done ++ []) st') := a9
      rw [List.append_nil] at a9
      exact a9 _ H2 a8 a2 ⟨Dl, vs, rfl, e1.fresh hD, a5, a6.less fun a z => .inl z⟩
  · rw [if_neg hz] at q1
    exact q1.elim
theorem df_comp {elt tg iter : Expr} {ifs : List Expr} {scope : Scope} {own : List (Str × Nat)} {pos : Pos} {t : Tg} {it : AM} {tt : TM} {te : EM} (hc : X.calm = true) (hN : X.N.Nodup) (hi : DI X ra E tg iter it) (ok : BlkOk X.N X.env.scope scope own)
    (hg : TgIn X ra scope tg t) (hsl : ∀ i ∈ t.slots, i ∈ own.map (·.2))
    (ht : ∀ (s : Shared) (H : Hp) (C : Addr) (cl : List (Str × Addr)) (fp : List Addr), DTs (Blk X s H C cl fp scope) ra E0' ifs tt)
    (he : ∀ (s : Shared) (H : Hp) (C : Addr) (cl : List (Str × Addr)) (fp : List Addr), DE (Blk X s H C cl fp scope) ra E0' elt te) (hs : ∀ x, foldedSetIterable iter X.env x = pure x := by intro _; rfl) :
    DF X ra E (.ListComp elt [⟨tg, iter, ifs, 0⟩] scope pos) (fComp (own.map (·.2)) t it tt te) := by
  obtain ⟨g, hpg, hgq⟩ := hg
  exact PE.imp (pe_lc (tt := tT X ra E0' tt) (te := tD X ra E0' te) hc hN hi ok hpg ht he hs) fun σ H Q h => comp_of hgq hsl h
/-- y = [..] -/
theorem ps_comp {i : Nat} {y : Str} {py : Pos} {elt tg iter : Expr} {ifs : List Expr} {scope : Scope} {own : List (Str × Nat)} {pos spos : Pos} {t : Tg} {it : AM} {tt : TM} {te : EM} (hc : X.calm = true) (hN : X.N.Nodup) (hy : X.N[i]? = some y) (hyl : X.env.scope.names.lookup y = some .local)
    (hsw : swapsWith (.ListComp elt [⟨tg, iter, ifs, 0⟩] scope pos) (some (.Name y py)) spos.line X.env = pure true) (hi : DI X ra E tg iter it) (ok : BlkOk X.N X.env.scope scope own)
    (hg : TgIn X ra scope tg t) (hsl : ∀ i ∈ t.slots, i ∈ own.map (·.2))
    (ht : ∀ (s : Shared) (H : Hp) (C : Addr) (cl : List (Str × Addr)) (fp : List Addr), DTs (Blk X s H C cl fp scope) ra E0' ifs tt)
    (he : ∀ (s : Shared) (H : Hp) (C : Addr) (cl : List (Str × Addr)) (fp : List Addr), DE (Blk X s H C cl fp scope) ra E0' elt te) (hs : ∀ x, foldedSetIterable iter X.env x = pure x := by intro _; rfl) :
    PS X (.Assign [.Name y py] (.ListComp elt [⟨tg, iter, ifs, 0⟩] scope pos) spos) (tAsg (tF X ra E (fComp (own.map (·.2)) t it tt te)) (gName i)) := by
  obtain ⟨g, hpg, hgq⟩ := hg
  exact PS.imp (ps_setLc (tt := tT X ra E0' tt) (te := tD X ra E0' te) hc hN hy hyl hsw hi ok hpg ht he hs) fun D σ H h => comp_of hgq hsl h

/-! ### two fors -/
theorem walk_it {J : It} {n : Nat} {H0 : Hp} {Qd : Hp → Prop} {body : (Hp → Prop) → V → Hp → Prop} (Pv : Nat → Hp → Prop) (goes : ∀ i H, i < n → Pv i H → J.go i H) (stops : ∀ H, Pv n H → J.stop n H) (h0 : Pv 0 H0)
    (step : ∀ i H, i < n → Pv i H → ∀ x H', J.yld i H x H' → body (Pv (i + 1)) x H') (done : ∀ H, Pv n H → Qd H) :
    ∃ W : Nat → Nat → Hp → Prop, (∃ m, W 0 m H0) ∧ ∀ i m H, W i m H → (J.stop i H ∧ Qd H) ∨ (J.go i H ∧ ∃ Nx : Hp → Prop, (∀ H', Nx H' → ∃ m', m' < m ∧ W (i + 1) m' H') ∧ ∀ x H', J.yld i H x H' → body Nx x H') := by
  refine ⟨fun i m H => m = n - i ∧ i ≤ n ∧ Pv i H, ⟨n, by simp, Nat.zero_le _, h0⟩, ?_⟩
  rintro i m H ⟨rfl, hi, p⟩
  by_cases hlt : i < n
  · exact .inr ⟨goes i H hlt p, Pv (i + 1), fun H' p' => ⟨n - (i + 1), by omega, rfl, hlt, p'⟩, step i H hlt p⟩
  · have e : i = n := by omega
    subst e
    exact .inl ⟨stops H p, done H p⟩
def compL2 (vs : List Nat) (tg : Tg) (tt : TM) (it1 : AM) (tg1 : Tg) (tt1 : TM) (te : EM) (ρ : EE) : List D → DS → Res (List D)
  | [], st => .ok [] st
  | d :: ds, st => match bindE tg d (wipeE ρ vs) with
    | none => .stuck
    | some ρ' => (tt ρ' st).noX.bind fun b st1 => if b = true then (it1 ρ' st1).noX.bind fun es st2 => (compL tg1.slots tg1 tt1 te ρ' es st2).noX.bind fun ys st3 => (compL2 vs tg tt it1 tg1 tt1 te ρ ds st3).noX.bind fun zs st4 => .ok (ys ++ zs) st4
      else compL2 vs tg tt it1 tg1 tt1 te ρ ds st1
def fComp2 (vs : List Nat) (tg : Tg) (it : AM) (tt : TM) (it1 : AM) (tg1 : Tg) (tt1 : TM) (te : EM) : AM := fun ρ st => (it ρ st).bind fun ds st1 => (compL2 vs tg tt it1 tg1 tt1 te ρ ds st1).noX.bind fun zs st2 => if zs.length ≤ SZ then .ok zs st2 else .stuck
theorem Res.noX_inv {α β : Type} {r : Res α} {k : α → DS → Res β} {b : β} {s : DS} (h : r.noX.bind k = .ok b s) : ∃ a s1, r = .ok a s1 ∧ k a s1 = .ok b s := by
  cases r with
  | ok a s1 => exact ⟨a, s1, rfl, h⟩
  | exc c fs s1 => cases h
  | stuck => cases h
theorem drop_cons_of {α : Type} {ds : List α} {i : Nat} {d : α} (hd : ds[i]? = some d) : ds.drop i = d :: ds.drop (i + 1) := by
  obtain ⟨hlt, e⟩ := List.getElem?_eq_some_iff.mp hd
  rw [List.drop_eq_getElem_cons hlt, e]
theorem comp2_of {own : List (Str × Nat)} {t t1 : Tg} {it it1 : AM} {tt tt1 : TM} {te : EM} {g g1 : TG} (hgq : ∀ (B : Addr → Prop) (σ : L2.St) (ρ ρ' : EE) (H : Hp) (d : D) (v : V) (Q : L2.St → Hp → Prop), EnvR (pr X ra) H B σ ρ → Rep (pr X ra) H B d v → bindE t d ρ = some ρ' →
    (∀ σ', EnvR (pr X ra) H B σ' ρ' → (∀ vs : List Nat, (∀ i ∈ t.slots, i ∈ vs) → L2.wipe σ' vs = L2.wipe σ vs) → Q σ' H) → g v σ H Q) (hsl : ∀ i ∈ t.slots, i ∈ own.map (·.2))
    (hgq1 : ∀ (B : Addr → Prop) (σ : L2.St) (ρ ρ' : EE) (H : Hp) (d : D) (v : V) (Q : L2.St → Hp → Prop), EnvR (pr X ra) H B σ ρ → Rep (pr X ra) H B d v → bindE t1 d ρ = some ρ' →
    (∀ σ', EnvR (pr X ra) H B σ' ρ' → (∀ vs : List Nat, (∀ i ∈ t1.slots, i ∈ vs) → L2.wipe σ' vs = L2.wipe σ vs) → Q σ' H) → g1 v σ H Q) {σ : L2.St} {H : Hp} {Q : VK} (h : tF X ra E (fComp2 (own.map (·.2)) t it tt it1 t1 tt1 te) σ H Q) :
    tLc2 (tI X ra E it) g (tT X ra E0' tt) (tI X ra E0' it1) g1 (tT X ra E0' tt1) (tD X ra E0' te) (own.map (·.2)) t1.slots σ H Q := by
  obtain ⟨B, ρ, st, p, q⟩ := h
  refine ⟨B, ρ, st, p, Post.seq q fun ds st1 J H1 _ e1 w1 hw q1 => ?_⟩
  obtain ⟨τ, W, tr⟩ := hw
  intro Dl hD
  have hDB : ¬ B Dl := fun z => (p.ext e1 w1).dom Dl z hD
  have hDr : Dl ≠ ra.a := fun z => hDB (by rw [z]; exact p.bra)
  obtain ⟨zs, stz, hzs, q2⟩ := Post.inv q1
  by_cases hz : zs.length ≤ SZ
  case neg => rw [if_neg hz] at q2; exact q2.elim
  rw [if_pos hz] at q2
  have ra4 : ∀ a, isRa (pr X ra) a → (B a ∨ a = Dl) := fun a z => .inl (by rw [z]; exact p.bra)
  have su : ∀ a, (fun a => a = Dl) a → (B a ∨ a = Dl) := fun a z => .inr z
  refine walk_it (J := J) (n := ds.length) (body := fun Nx x H' => g x (L2.wipe σ (own.map (·.2))) H' _) (fun i H' => ∃ st' done vs ys, EnvR (pr X ra) H' (fun a => B a ∨ a = Dl) σ ρ ∧ Row (pr X ra) H' st' ∧ (∀ b, B b → H' b ≠ none) ∧ TRep (pr X ra) H' (fun a => B a ∨ a = Dl) τ ∧ H' Dl = some (.lst vs) ∧ Reps (pr X ra) H' (fun a => B a ∨ a = Dl) done vs ∧ Ext (isRa (pr X ra)) H1 H' ∧
        compL2 (own.map (·.2)) t tt it1 t1 tt1 te ρ (ds.drop i) st' = .ok ys stz ∧ zs = done ++ ys)
      (fun i H' hi ⟨st', done, vs, ys, a1, a2, a3, a4, _⟩ => W.goes i H' _ hi a4) (fun H' ⟨st', done, vs, ys, a1, a2, a3, a4, _⟩ => W.stops H' _ a4)
      ⟨st1, [], [], zs, ((p.ext e1 w1).er.fresh hD).ext (Ext.new (B := fun _ => False) hD) (fun _ z => z.elim), w1.new hD, fun b z => (Ext.new (B := fun _ => False) hD).dom b ((p.ext e1 w1).dom b z), (tr.fresh hD).ext (Ext.new (B := fun _ => False) hD) (fun _ z => z.elim), upd_same, Reps.nil, Ext.new hD, hzs, rfl⟩ ?_ ?_
  · rintro i H2 hi ⟨st', done, vs, ys, a1, a2, a3, a4, a5, a6, a8, a9, a10⟩ x H3 y
    obtain ⟨d, hd⟩ : ∃ d, ds[i]? = some d := ⟨_, List.getElem?_eq_getElem hi⟩
    obtain ⟨y1, y2⟩ := W.yields i H2 x H3 _ d a4 hd y
    rw [drop_cons_of hd] at a9
    unfold compL2 at a9
    have x3 : Ext (fun _ => False) H2 H3 := yield_ext (P := pr X ra) y1
    have s0 : ∀ a, (fun _ : Addr => False) a → (B a ∨ a = Dl) := fun _ z => z.elim
    have b1 := (a1.ext x3 s0).wipe (own.map (·.2))
    cases hb : bindE t d (wipeE ρ (own.map (·.2))) with
    | none => rw [hb] at a9; cases a9
    | some ρ' =>
      rw [hb] at a9
      obtain ⟨bt, st2, hbt, a9⟩ := Res.noX_inv a9
      have dom3 : ∀ b, (B b ∨ b = Dl) → H3 b ≠ none := fun b z => z.elim (fun z => x3.dom b (a3 b z)) fun z => x3.dom b (by rw [z, a5]; exact fun z => nomatch z)
      refine hgq _ _ _ _ H3 d x _ b1 y2 hb fun σ2 er2 hwp => ⟨?_, ?_⟩
      · rw [hwp _ hsl, wipe_wipe _ _ _ (fun i z => z)]
      · refine ⟨fun a => B a ∨ a = Dl, ρ', st', er2.pre (.inl p.bra) dom3 (yield_row y1 a2), Post.run hbt fun kb H4 e4 w4 rb => ?_⟩
        have rb : kb = bt := rb
        subst rb
        have x4 : Ext (isRa (pr X ra)) H2 H4 := (yield_ext (P := pr X ra) y1).trans e4
        have keep4 : H4 Dl = some (.lst vs) := x4.keep _ _ a5 (fun z => hDr z.1) trivial
        cases kb with
        | false =>
          rw [if_neg Bool.false_ne_true] at a9 ⊢
          exact ⟨st2, done, vs, ys, a1.ext x4 ra4, w4, fun b z => x4.dom b (a3 b z), a4.ext x4 ra4, keep4, a6.ext x4 ra4, a8.trans x4, a9, a10⟩
        | true =>
          rw [if_pos rfl] at a9 ⊢
          obtain ⟨es, st3, hes, a9⟩ := Res.noX_inv a9
          obtain ⟨ys1, st4, hy1, a9⟩ := Res.noX_inv a9
          obtain ⟨zs1, st5, hz1, a9⟩ := Res.noX_inv a9
          cases a9
          have er4 := er2.ext e4 ra4
          refine ⟨fun a => B a ∨ a = Dl, ρ', st2, er4.pre (.inl p.bra) (fun b z => e4.dom b (dom3 b z)) w4, Post.run hes fun J1 H5 e5 w5 hw1 => ?_⟩
          obtain ⟨τ1, W1, tr1⟩ := hw1
          have x5 : Ext (isRa (pr X ra)) H2 H5 := x4.trans e5
          refine walk_it (J := J1) (n := es.length) (body := fun Nx x H' => g1 x (L2.wipe σ2 t1.slots) H' _) (fun j H' => ∃ st'' done' vs' yr, EnvR (pr X ra) H' (fun a => B a ∨ a = Dl) σ ρ ∧ EnvR (pr X ra) H' (fun a => B a ∨ a = Dl) σ2 ρ' ∧ Row (pr X ra) H' st'' ∧ (∀ b, B b → H' b ≠ none) ∧ TRep (pr X ra) H' (fun a => B a ∨ a = Dl) τ ∧ TRep (pr X ra) H' (fun a => B a ∨ a = Dl) τ1 ∧ H' Dl = some (.lst vs') ∧ Reps (pr X ra) H' (fun a => B a ∨ a = Dl) done' vs' ∧ Ext (isRa (pr X ra)) H1 H' ∧
              compL t1.slots t1 tt1 te ρ' (es.drop j) st'' = .ok yr st4 ∧ done ++ ys1 = done' ++ yr)
            (fun i H' hi ⟨_, _, _, _, _, _, _, _, _, a4, _⟩ => W1.goes i H' _ hi a4) (fun H' ⟨_, _, _, _, _, _, _, _, _, a4, _⟩ => W1.stops H' _ a4)
            ⟨st3, done, vs, ys1, a1.ext x5 ra4, er4.ext e5 ra4, w5, fun b z => x5.dom b (a3 b z), a4.ext x5 ra4, tr1, x5.keep _ _ a5 (fun z => hDr z.1) trivial, a6.ext x5 ra4, a8.trans x5, hy1, rfl⟩ ?_ ?_
          · rintro j H6 hj ⟨st'', done', vs', yr, c1, c2, c3, c4, c5, c6, c7, c8, c9, c10, c11⟩ x1 H7 y'
            obtain ⟨d1, hd1⟩ : ∃ d, es[j]? = some d := ⟨_, List.getElem?_eq_getElem hj⟩
            obtain ⟨z1, z2⟩ := W1.yields j H6 x1 H7 _ d1 c6 hd1 y'
            rw [drop_cons_of hd1] at c10
            unfold compL at c10
            have x7 : Ext (fun _ => False) H6 H7 := yield_ext (P := pr X ra) z1
            have f1 := (c2.ext x7 s0).wipe t1.slots
            cases hb1 : bindE t1 d1 (wipeE ρ' t1.slots) with
            | none => rw [hb1] at c10; cases c10
            | some ρ'' =>
              rw [hb1] at c10
              obtain ⟨bt1, st6, hbt1, c10⟩ := Res.noX_inv c10
              have dom7 : ∀ b, (B b ∨ b = Dl) → H7 b ≠ none := fun b z => z.elim (fun z => x7.dom b (c4 b z)) fun z => x7.dom b (by rw [z, c7]; exact fun z => nomatch z)
              refine hgq1 _ _ _ _ H7 d1 x1 _ f1 z2 hb1 fun σ3 er3 hwp3 => ⟨?_, ?_⟩
              · rw [hwp3 _ (fun i z => z), wipe_wipe _ _ _ (fun i z => z)]
              · refine ⟨fun a => B a ∨ a = Dl, ρ'', st'', er3.pre (.inl p.bra) dom7 (yield_row z1 c3), Post.run hbt1 fun kb H8 e8 w8 rb => ?_⟩
                have rb : kb = bt1 := rb
                subst rb
                have x8 : Ext (isRa (pr X ra)) H6 H8 := (yield_ext (P := pr X ra) z1).trans e8
                have keep8 : H8 Dl = some (.lst vs') := x8.keep _ _ c7 (fun z => hDr z.1) trivial
                cases kb with
                | false =>
                  rw [if_neg Bool.false_ne_true] at c10 ⊢
                  exact ⟨st6, done', vs', yr, c1.ext x8 ra4, c2.ext x8 ra4, w8, fun b z => x8.dom b (c4 b z), c5.ext x8 ra4, c6.ext x8 ra4, keep8, c8.ext x8 ra4, c9.trans x8, c10, c11⟩
                | true =>
                  rw [if_pos rfl] at c10 ⊢
                  obtain ⟨yd, st7, hyd, c10⟩ := Res.noX_inv c10
                  have c10 : (compL t1.slots t1 tt1 te ρ' (es.drop (j + 1)) st7).bind (fun ys st3 => .ok (yd :: ys) st3) = .ok yr st4 := c10
                  cases hrr : compL t1.slots t1 tt1 te ρ' (es.drop (j + 1)) st7 with
                  | exc c fs s1 => rw [hrr] at c10; cases c10
                  | stuck => rw [hrr] at c10; cases c10
                  | ok yr' s1 =>
                    rw [hrr] at c10
                    cases c10
                    refine ⟨fun a => B a ∨ a = Dl, ρ'', st6, (er3.ext e8 ra4).pre (.inl p.bra) (fun b z => e8.dom b (dom7 b z)) w8, Post.run hyd fun yv H9 e9 w9 ry => ?_⟩
                    have x9 : Ext (isRa (pr X ra)) H6 H9 := x8.trans e9
                    have keep9 : H9 Dl = some (.lst vs') := x9.keep _ _ c7 (fun z => hDr z.1) trivial
                    have hlen : done'.length < SZ := by
                      have e1 := congrArg List.length a10
                      have e2 := congrArg List.length c11
                      simp only [List.length_append, List.length_cons] at e1 e2
                      omega
                    refine ⟨vs', keep9, by rw [sz_eq, c8.length]; exact hlen, ?_⟩
                    have xu : Ext (fun a => a = Dl) H9 (upd H9 Dl (.lst (vs' ++ [yv]))) := Ext.updMt keep9 trivial
                    exact ⟨st7, done' ++ [yd], vs' ++ [yv], yr', (c1.ext x9 ra4).ext xu su, (c2.ext x9 ra4).ext xu su, w9.upd hDr (.inr ⟨_, keep9, trivial⟩), fun b z => xu.dom b (x9.dom b (c4 b z)), (c5.ext x9 ra4).ext xu su, (c6.ext x9 ra4).ext xu su, upd_same, ((c8.ext x9 ra4).append (Reps.one ry)).ext xu su, (c9.trans x9).updNew hD, hrr, by rw [c11]; simp⟩
          · rintro H6 ⟨st'', done', vs', yr, c1, c2, c3, c4, c5, c6, c7, c8, c9, c10, c11⟩
            rw [List.drop_length] at c10
            cases c10
            rw [List.append_nil] at c11
            exact ⟨st4, done', vs', zs1, c1, c3, c4, c5, c7, c8, c9, hz1, by rw [a10, ← c11]; simp⟩
  · rintro H2 ⟨st', done, vs, ys, a1, a2, a3, a4, a5, a6, a8, a9, a10⟩
    rw [List.drop_length] at a9
    cases a9
    rw [List.append_nil] at a10
    subst a10
    exact q2 _ H2 a8 a2 ⟨Dl, vs, rfl, e1.fresh hD, a5, a6.less fun a z => .inl z⟩
theorem df_comp2 {elt tg iter tg1 iter1 : Expr} {ifs ifs1 : List Expr} {scope : Scope} {own : List (Str × Nat)} {pos : Pos} {t t1 : Tg} {it it1 : AM} {tt tt1 : TM} {te : EM} (hc : X.calm = true) (hN : X.N.Nodup) (hi : DI X ra E tg iter it) (ok : BlkOk X.N X.env.scope scope own)
    (hg : TgIn X ra scope tg t) (hsl : ∀ i ∈ t.slots, i ∈ own.map (·.2)) (hg1 : TgIn X ra scope tg1 t1) (hsl1 : ∀ i ∈ t1.slots, i ∈ own.map (·.2))
    (ht : ∀ (s : Shared) (H : Hp) (C : Addr) (cl : List (Str × Addr)) (fp : List Addr), DTs (Blk X s H C cl fp scope) ra E0' ifs tt)
    (hi1 : ∀ (s : Shared) (H : Hp) (C : Addr) (cl : List (Str × Addr)) (fp : List Addr), DI (Blk X s H C cl fp scope) ra E0' tg1 iter1 it1)
    (ht1 : ∀ (s : Shared) (H : Hp) (C : Addr) (cl : List (Str × Addr)) (fp : List Addr), DTs (Blk X s H C cl fp scope) ra E0' ifs1 tt1)
    (he : ∀ (s : Shared) (H : Hp) (C : Addr) (cl : List (Str × Addr)) (fp : List Addr), DE (Blk X s H C cl fp scope) ra E0' elt te) (hs : ∀ x, foldedSetIterable iter X.env x = pure x := by intro _; rfl) (hs1 : ∀ env x, foldedSetIterable iter1 env x = pure x := by intro _ _; rfl) :
    DF X ra E (.ListComp elt [⟨tg, iter, ifs, 0⟩, ⟨tg1, iter1, ifs1, 0⟩] scope pos) (fComp2 (own.map (·.2)) t it tt it1 t1 tt1 te) := by
  obtain ⟨g, hpg, hgq⟩ := hg
  obtain ⟨g1, hpg1, hgq1⟩ := hg1
  exact PE.imp (pe_lc2 (wi1 := tI X ra E0' it1) (tt := tT X ra E0' tt) (tt1 := tT X ra E0' tt1) (te := tD X ra E0' te) hc hN hi ok hsl1 hpg ht hi1 hpg1 ht1 he hs hs1) fun σ H Q h => comp2_of hgq hsl hgq1 h
theorem ps_comp2 {i : Nat} {y : Str} {py : Pos} {elt tg iter tg1 iter1 : Expr} {ifs ifs1 : List Expr} {scope : Scope} {own : List (Str × Nat)} {pos spos : Pos} {t t1 : Tg} {it it1 : AM} {tt tt1 : TM} {te : EM} (hc : X.calm = true) (hN : X.N.Nodup) (hy : X.N[i]? = some y) (hyl : X.env.scope.names.lookup y = some .local)
    (hsw : swapsWith (.ListComp elt [⟨tg, iter, ifs, 0⟩, ⟨tg1, iter1, ifs1, 0⟩] scope pos) (some (.Name y py)) spos.line X.env = pure true) (hi : DI X ra E tg iter it) (ok : BlkOk X.N X.env.scope scope own)
    (hg : TgIn X ra scope tg t) (hsl : ∀ i ∈ t.slots, i ∈ own.map (·.2)) (hg1 : TgIn X ra scope tg1 t1) (hsl1 : ∀ i ∈ t1.slots, i ∈ own.map (·.2))
    (ht : ∀ (s : Shared) (H : Hp) (C : Addr) (cl : List (Str × Addr)) (fp : List Addr), DTs (Blk X s H C cl fp scope) ra E0' ifs tt)
    (hi1 : ∀ (s : Shared) (H : Hp) (C : Addr) (cl : List (Str × Addr)) (fp : List Addr), DI (Blk X s H C cl fp scope) ra E0' tg1 iter1 it1)
    (ht1 : ∀ (s : Shared) (H : Hp) (C : Addr) (cl : List (Str × Addr)) (fp : List Addr), DTs (Blk X s H C cl fp scope) ra E0' ifs1 tt1)
    (he : ∀ (s : Shared) (H : Hp) (C : Addr) (cl : List (Str × Addr)) (fp : List Addr), DE (Blk X s H C cl fp scope) ra E0' elt te) (hs : ∀ x, foldedSetIterable iter X.env x = pure x := by intro _; rfl) (hs1 : ∀ env x, foldedSetIterable iter1 env x = pure x := by intro _ _; rfl) :
    PS X (.Assign [.Name y py] (.ListComp elt [⟨tg, iter, ifs, 0⟩, ⟨tg1, iter1, ifs1, 0⟩] scope pos) spos) (tAsg (tF X ra E (fComp2 (own.map (·.2)) t it tt it1 t1 tt1 te)) (gName i)) := by
  obtain ⟨g, hpg, hgq⟩ := hg
  obtain ⟨g1, hpg1, hgq1⟩ := hg1
  exact PS.imp (ps_setLc2 (wi1 := tI X ra E0' it1) (tt := tT X ra E0' tt) (tt1 := tT X ra E0' tt1) (te := tD X ra E0' te) hc hN hy hyl hsw hi ok hsl1 hpg ht hi1 hpg1 ht1 he hs hs1) fun D σ H h => comp2_of hgq hsl hgq1 h
end
end Ev

namespace Ev
open PySem PySem.Spec PyProof.Rows L2
section
variable {X : Cx} {Tb : Tbs} {ra : RA Tb} {E : XK} {a b e : Expr} {es : List Expr} {ma mb m : EM} {am : AM} {pos p : Pos}

/-! ### x[i] -/
def IxD (X : Cx) {Tb : Tbs} (ra : RA Tb) (f : D → D → Option D) : Prop :=
  ∃ r : R2, IxR X r ∧ ∀ (B : Addr → Prop) (H : Hp) (st : DS) (x y z : D) (vx vy : V) (Q : VK), B ra.a → (∀ b, B b → H b ≠ none) → Row (pr X ra) H st → Rep (pr X ra) H B x vx → Rep (pr X ra) H B y vy → f x y = some z →
    (∀ v H', Ext (isRa (pr X ra)) H H' → Row (pr X ra) H' st → Rep (pr X ra) H' B z v → Q v H') → r vx vy H Q
theorem IxD.or {f g : D → D → Option D} (h : IxD X ra f) (k : IxD X ra g) : IxD X ra (orD f g) := by
  obtain ⟨r1, o1, q1⟩ := h
  obtain ⟨r2, o2, q2⟩ := k
  refine ⟨_, o1.or o2, fun B H st x y z vx vy Q b d w rx ry e q => ?_⟩
  unfold orD at e
  split at e
  · rename_i z' e'
    cases e
    exact .inl (q1 B H st x y _ vx vy Q b d w rx ry e' q)
  · exact .inr (q2 B H st x y _ vx vy Q b d w rx ry e q)
theorem de_ix {f : D → D → Option D} (ho : IxD X ra f) (ha : DE X ra E a ma) (hb : DE X ra E b mb) (hs : PlainIx b := by intro _ _; rfl) : DE X ra E (.Subscript a b pos) (cOp f ma mb) := by
  obtain ⟨r, o, hr⟩ := ho
  exact PE.imp (pe_ix o ha hb hs) fun σ H Q h => bin_of hr h
def xIxL : D → D → Option D
  | .lst xs, .int i => atI xs i
  | _, _ => none
def xIxT : D → D → Option D
  | .tup xs, .int i => atI xs i
  | _, _ => none
def xIxS : D → D → Option D
  | .str z, .int i => if z.length ≤ SZ then (atI z.cps.toList i).map fun c => .str ⟨#[c]⟩ else none
  | _, _ => none
theorem atI_rep {P : Par} {H : Hp} {B : Addr → Prop} {xs : List D} {vs : List V} {i : Int} {z : D} (r : Reps P H B xs vs) (h : atI xs i = some z) : ∃ v, atI vs i = some v ∧ Rep P H B z v := by
  unfold atI at h ⊢
  rw [r.length]
  cases hk : ixN xs.length i with
  | none => rw [hk] at h; cases h
  | some j =>
    rw [hk] at h
    exact r.get h
theorem i_lst : IxD X ra xIxL := by
  refine ⟨_, ix_list, fun B H st x y z vx vy Q b d w rx ry e q => ?_⟩
  unfold xIxL at e
  split at e
  · rename_i xs i
    obtain ⟨p, vs, rfl, h1, _, r1⟩ := rx
    obtain ⟨v, hv, rv⟩ := atI_rep r1 e
    exact ⟨p, vs, i, v, rfl, ry, SqL.of h1, hv, q v H Ext.refl w rv⟩
  · cases e
theorem i_tup : IxD X ra xIxT := by
  refine ⟨_, ix_tup, fun B H st x y z vx vy Q b d w rx ry e q => ?_⟩
  unfold xIxT at e
  split at e
  · rename_i xs i
    obtain ⟨p, vs, rfl, h1, r1⟩ := rx
    obtain ⟨v, hv, rv⟩ := atI_rep r1 e
    exact ⟨p, vs, i, v, rfl, ry, h1, hv, q v H Ext.refl w rv⟩
  · cases e
theorem i_str : IxD X ra xIxS := by
  refine ⟨_, ix_str, fun B H st x y z vx vy Q b d w rx ry e q => ?_⟩
  unfold xIxS at e
  split at e
  · rename_i s i
    split at e
    · rename_i hz
      cases hk : atI s.cps.toList i with
      | none => rw [hk] at e; cases e
      | some c =>
        rw [hk] at e
        cases e
        exact ⟨s, i, c, rx, ry, by rw [sz_eq]; exact hz, hk, q _ H Ext.refl w rfl⟩
    · cases e
  · cases e
def xIx : D → D → Option D := orD xIxL (orD xIxT xIxS)
theorem i_seq : IxD X ra xIx := i_lst.or (i_tup.or i_str)

/-! ### slices -/
abbrev PM := EE → DS → Res (Option Int)
def tP (X : Cx) {Tb : Tbs} (ra : RA Tb) (E : XK) (m : PM) : TO := fun σ H Q => ∃ B ρ st, Pre (pr X ra) B σ ρ H st ∧ Post (pr X ra) B H E (fun _ (d v : Option Int) => v = d) Q (m ρ st)
abbrev DP (X : Cx) {Tb : Tbs} (ra : RA Tb) (E : XK) (e : Option Expr) (m : PM) : Prop := PO X e (tP X ra E m)
theorem PO.imp {e : Option Expr} {t t' : TO} (h : PO X e t) (k : ∀ σ H Q, t' σ H Q → t σ H Q) : PO X e t' := ⟨fun pins s σ H Q I q => h.run pins s σ H Q I (k σ H Q q)⟩
def pNo : PM := fun _ st => .ok none st
def pIt (m : EM) : PM := fun ρ st => (m ρ st).bind fun d st1 => match d with
  | .int i => .ok (some i) st1
  | _ => .stuck
theorem dp_no : DP X ra E none pNo := PO.imp po_none fun σ H Q ⟨B, ρ, st, p, q⟩ => q none H Ext.refl p.row rfl
theorem dp_it (h : DE X ra E e m) : DP X ra E (some e) (pIt m) :=
  PO.imp (po_some h) fun σ H Q ⟨B, ρ, st, p, q⟩ => ⟨B, ρ, st, p, Post.seq q fun d st1 v H1 _ e1 w1 r q1 => by
    cases d with
    | int i => exact ⟨i, r, q1 (some i) H1 Ext.refl w1 rfl⟩
    | _ => exact q1.elim⟩
/-- the items of xs[lo:hi] -/
def cutD (xs : List D) (lo hi : Option Int) : List D := (xs.drop (HT.sIx xs.length 0 lo)).take (HT.sIx xs.length xs.length hi - HT.sIx xs.length 0 lo)
theorem cut_rep {P : Par} {H : Hp} {B : Addr → Prop} {xs : List D} {vs : List V} {lo hi : Option Int} (r : Reps P H B xs vs) : Reps P H B (cutD xs lo hi) (cutV vs lo hi) := by
  unfold cutD cutV
  rw [r.length]
  exact (r.drop _).take _
def SlD (X : Cx) {Tb : Tbs} (ra : RA Tb) (f : D → Option Int → Option Int → Option D) : Prop :=
  ∃ r : V → Option Int → Option Int → Hp → VK → Prop, SlR X r ∧ ∀ (B : Addr → Prop) (H : Hp) (st : DS) (x z : D) (lo hi : Option Int) (vx : V) (Q : VK), B ra.a → (∀ b, B b → H b ≠ none) → Row (pr X ra) H st → Rep (pr X ra) H B x vx → f x lo hi = some z →
    (∀ v H', Ext (isRa (pr X ra)) H H' → Row (pr X ra) H' st → Rep (pr X ra) H' B z v → Q v H') → r vx lo hi H Q
def cSl (f : D → Option Int → Option Int → Option D) (m : EM) (lo hi : PM) : EM := fun ρ st => (m ρ st).bind fun x st1 => (lo ρ st1).bind fun l st2 => (hi ρ st2).bind fun u st3 => Res.of (f x l u) st3
variable {lo hi : Option Expr} {ml mh : PM} {p2 : Pos}
theorem de_sl {f : D → Option Int → Option Int → Option D} (hf : SlD X ra f) (he : DE X ra E e m) (hl : DP X ra E lo ml) (hu : DP X ra E hi mh) : DE X ra E (.Subscript e (.Slice lo hi none p2) pos) (cSl f m ml mh) := by
  obtain ⟨r, o, hr⟩ := hf
  refine PE.imp (pe_slice o he hl hu) fun σ H Q ⟨B, ρ, st, p, q⟩ => ⟨B, ρ, st, p, Post.seq q fun x st1 v H1 _ e1 w1 rx q1 => ?_⟩
  have p1 := p.ext e1 w1
  refine ⟨B, ρ, st1, p1, Post.seq q1 fun l st2 vl H2 _ e2 w2 rl q2 => ?_⟩
  have p2 := p1.ext e2 w2
  refine ⟨B, ρ, st2, p2, Post.seq q2 fun u st3 vu H3 _ e3 w3 ru q3 => ?_⟩
  have p3 := p2.ext e3 w3
  have rl : vl = l := rl
  have ru : vu = u := ru
  subst rl ru
  cases hz : f x vl vu with
  | none => rw [hz] at q3; exact q3.elim
  | some z =>
    rw [hz] at q3
    exact hr B H3 st3 x z vl vu v Q p.bra p3.dom p3.row ((rx.ext e2 (sub_ra p.bra)).ext e3 (sub_ra p.bra)) hz fun v H' e w r => q3 v H' e w r
def xSlT : D → Option Int → Option Int → Option D
  | .tup xs, lo, hi => some (.tup (cutD xs lo hi))
  | _, _, _ => none
theorem sIx_le (n d : Nat) (o : Option Int) (h : d ≤ n) : HT.sIx n d o ≤ n := by
  unfold HT.sIx
  split <;> (try split) <;> omega
theorem s_tup : SlD X ra xSlT := by
  refine ⟨_, sl_tupA, fun B H st x z lo hi vx Q b d w rx e q => ?_⟩
  unfold xSlT at e
  split at e
  · rename_i xs
    cases e
    obtain ⟨p, vs, rfl, h1, r1⟩ := rx
    refine ⟨p, vs, rfl, h1, fun hw => ?_, fun _ t ht => ?_⟩
    · refine q _ H Ext.refl w ⟨p, vs, rfl, h1, ?_⟩
      have e : cutD xs lo hi = xs := by
        unfold cutD
        rw [← r1.length, hw.1, hw.2, List.drop_zero, Nat.sub_zero, r1.length, List.take_length]
      rw [e]
      exact r1
    · exact q _ _ (Ext.new ht) (w.new ht) ⟨t, _, rfl, SqT.of upd_same, (cut_rep r1).ext (Ext.new ht) (sub_ra (P := pr X ra) b)⟩
  · cases e
def xSlS : D → Option Int → Option Int → Option D
  | .str z, lo, hi => if z.length ≤ SZ then some (.str (cutS z lo hi)) else none
  | _, _, _ => none
theorem s_str : SlD X ra xSlS := by
  refine ⟨_, sl_str, fun B H st x z lo hi vx Q b d w rx e q => ?_⟩
  unfold xSlS at e
  split at e
  · rename_i s
    split at e
    · rename_i hz
      cases e
      exact ⟨s, rx, by rw [sz_eq]; exact hz, q _ H Ext.refl w rfl⟩
    · cases e
  · cases e
theorem SlD.or {f g : D → Option Int → Option Int → Option D} (h : SlD X ra f) (k : SlD X ra g) : SlD X ra (fun x l u => match f x l u with | some z => some z | none => g x l u) := by
  obtain ⟨r1, o1, q1⟩ := h
  obtain ⟨r2, o2, q2⟩ := k
  refine ⟨_, o1.or o2, fun B H st x z lo hi vx Q b d w rx e q => ?_⟩
  have e : (match f x lo hi with | some z => some z | none => g x lo hi) = some z := e
  split at e
  · rename_i z' e'
    cases e
    exact .inl (q1 B H st x _ lo hi vx Q b d w rx e' q)
  · exact .inr (q2 B H st x _ lo hi vx Q b d w rx e q)
/-- a slice of a list: a new list -/
def fSl (m : EM) (lo hi : PM) : AM := fun ρ st => (m ρ st).bind fun x st1 => (lo ρ st1).bind fun l st2 => (hi ρ st2).bind fun u st3 => match x with
  | .lst xs => .ok (cutD xs l u) st3
  | _ => .stuck
theorem df_sl (he : DE X ra E e m) (hl : DP X ra E lo ml) (hu : DP X ra E hi mh) : DF X ra E (.Subscript e (.Slice lo hi none p2) pos) (fSl m ml mh) := by
  refine PE.imp (pe_slice sl_list he hl hu) fun σ H Q ⟨B, ρ, st, p, q⟩ => ⟨B, ρ, st, p, Post.seq q fun x st1 v H1 _ e1 w1 rx q1 => ?_⟩
  have p1 := p.ext e1 w1
  refine ⟨B, ρ, st1, p1, Post.seq q1 fun l st2 vl H2 _ e2 w2 rl q2 => ?_⟩
  have p2 := p1.ext e2 w2
  refine ⟨B, ρ, st2, p2, Post.seq q2 fun u st3 vu H3 _ e3 w3 ru q3 => ?_⟩
  have p3 := p2.ext e3 w3
  have rl : vl = l := rl
  have ru : vu = u := ru
  subst rl ru
  have rx3 := (rx.ext e2 (sub_ra p.bra)).ext e3 (sub_ra p.bra)
  cases x with
  | lst xs =>
    obtain ⟨a, vs, rfl, s, n, rs⟩ := rx3
    refine ⟨a, vs, rfl, SqL.of s, fun t ht => q3 (.ref t) _ (Ext.new ht) (w3.new ht) ⟨t, _, rfl, ?_, upd_same, (cut_rep rs).ext (Ext.new ht) (sub_ra p.bra)⟩⟩
    exact e1.fresh (e2.fresh (e3.fresh ht))
  | _ => exact q3.elim

/-! ### in -/
theorem opD_of {fn : Value → Value → Sem Value} {f : D → D → Option D} (h : ∀ (pins : List (Addr × Obj)) (s : Shared) (σ : L2.St) (B : Addr → Prop) (H : Hp) (x y z : D) (vx vy : V) (u w : Value) (Q : VK), Inv X pins σ H s → RelV vx u → RelV vy w → Rep (pr X ra) H B x vx → Rep (pr X ra) H B y vy → f x y = some z →
    (∀ v, Rep (pr X ra) H B z v → Q v H) → wpAny (model X.prog X.w) X.A (fn u w) (EP X pins σ Q) X.xe s) : OpD X ra fn f :=
  ⟨fun vx vy H Q => ∃ B x y z, Rep (pr X ra) H B x vx ∧ Rep (pr X ra) H B y vy ∧ f x y = some z ∧ ∀ v, Rep (pr X ra) H B z v → Q v H,
    fun pins s σ H vx vy u w Q I ru rw' ⟨B, x, y, z, rx, ry, e, q⟩ => h pins s σ B H x y z vx vy u w Q I ru rw' rx ry e q,
    fun B H st x y z vx vy Q b d w rx ry e q => ⟨B, x, y, z, rx, ry, e, fun v r => q v H Ext.refl w r⟩⟩
def D.items : D → Option (List D)
  | .lst xs => some xs
  | .tup xs => some xs
  | _ => none
def xInS (neg : Bool) : D → D → Option D := fun x y => match y.items with
  | some ys => if (x.plain && SeqAt.shaped x.py && y.plain && SeqAt.shaped y.py) = true then some (.bl (neg ^^ (D.pys ys).any fun z => PyData.eqv z x.py)) else none
  | none => none
theorem o_in (hu : X.A.units + 65 < cLine) : OpD X ra (compareOp .In) (xInS false) := by
  refine opD_of fun pins s σ B H x y z vx vy u w Q I ru rw' rx ry e q => ?_
  unfold xInS at e
  cases y with
  | lst ys =>
    have e : (if (x.plain && SeqAt.shaped x.py && (D.lst ys).plain && SeqAt.shaped (D.lst ys).py) = true then some (D.bl (false ^^ (D.pys ys).any fun z => PyData.eqv z x.py)) else none) = some z := e
    split at e
    · rename_i hc
      cases e
      simp only [Bool.and_eq_true] at hc
      obtain ⟨as, r1⟩ := Dp.reads I _ _ u (Rep.dp x vx hc.1.1.1 rx) ru
      obtain ⟨bs, r2⟩ := Dp.reads I _ _ w (Rep.dp _ vy hc.1.2 ry) rw'
      refine SeqAt.in_list_reads r2 r1 (SeqAt.canLay_of_shaped hc.2) (SeqAt.canLay_of_shaped hc.1.1.2) (room_in_shaped hc.1.1.2 hu) ⟨.bl _, H, I, rfl, q _ ?_⟩
      simp only [Bool.false_xor]
      exact rfl
    · cases e
  | tup ys =>
    have e : (if (x.plain && SeqAt.shaped x.py && (D.tup ys).plain && SeqAt.shaped (D.tup ys).py) = true then some (D.bl (false ^^ (D.pys ys).any fun z => PyData.eqv z x.py)) else none) = some z := e
    split at e
    · rename_i hc
      cases e
      simp only [Bool.and_eq_true] at hc
      obtain ⟨as, r1⟩ := Dp.reads I _ _ u (Rep.dp x vx hc.1.1.1 rx) ru
      obtain ⟨bs, r2⟩ := Dp.reads I _ _ w (Rep.dp _ vy hc.1.2 ry) rw'
      refine SeqAt.in_tuple_reads r2 r1 (SeqAt.canLay_of_shaped hc.2) (SeqAt.canLay_of_shaped hc.1.1.2) (room_in_shaped hc.1.1.2 hu) ⟨.bl _, H, I, rfl, q _ ?_⟩
      simp only [Bool.false_xor]
      exact rfl
    · cases e
  | _ => cases e
theorem o_notIn (hu : X.A.units + 65 < cLine) : OpD X ra (compareOp .NotIn) (xInS true) := by
  refine opD_of fun pins s σ B H x y z vx vy u w Q I ru rw' rx ry e q => ?_
  unfold xInS at e
  cases y with
  | lst ys =>
    have e : (if (x.plain && SeqAt.shaped x.py && (D.lst ys).plain && SeqAt.shaped (D.lst ys).py) = true then some (D.bl (true ^^ (D.pys ys).any fun z => PyData.eqv z x.py)) else none) = some z := e
    split at e
    · rename_i hc
      cases e
      simp only [Bool.and_eq_true] at hc
      obtain ⟨as, r1⟩ := Dp.reads I _ _ u (Rep.dp x vx hc.1.1.1 rx) ru
      obtain ⟨bs, r2⟩ := Dp.reads I _ _ w (Rep.dp _ vy hc.1.2 ry) rw'
      refine SeqAt.notIn_list_reads r2 r1 (SeqAt.canLay_of_shaped hc.2) (SeqAt.canLay_of_shaped hc.1.1.2) (room_in_shaped hc.1.1.2 hu) ⟨.bl _, H, I, rfl, q _ ?_⟩
      simp only [Bool.true_xor]
      exact rfl
    · cases e
  | tup ys =>
    have e : (if (x.plain && SeqAt.shaped x.py && (D.tup ys).plain && SeqAt.shaped (D.tup ys).py) = true then some (D.bl (true ^^ (D.pys ys).any fun z => PyData.eqv z x.py)) else none) = some z := e
    split at e
    · rename_i hc
      cases e
      simp only [Bool.and_eq_true] at hc
      obtain ⟨as, r1⟩ := Dp.reads I _ _ u (Rep.dp x vx hc.1.1.1 rx) ru
      obtain ⟨bs, r2⟩ := Dp.reads I _ _ w (Rep.dp _ vy hc.1.2 ry) rw'
      refine SeqAt.notIn_tuple_reads r2 r1 (SeqAt.canLay_of_shaped hc.2) (SeqAt.canLay_of_shaped hc.1.1.2) (room_in_shaped hc.1.1.2 hu) ⟨.bl _, H, I, rfl, q _ ?_⟩
      simp only [Bool.true_xor]
      exact rfl
    · cases e
  | _ => cases e
/-- one sign in a text -/
def xInC (neg : Bool) : D → D → Option D
  | .str c, .str z => if c.cps.size = 1 then some (.bl (neg ^^ decide (c.cps.getD 0 0 ∈ z.cps.toList))) else none
  | _, _ => none
theorem one_sign {c : Str} (h : c.cps.size = 1) : c = ⟨#[c.cps.getD 0 0]⟩ := by
  obtain ⟨⟨l⟩⟩ := c
  match l, h with
  | [x], _ => rfl
theorem o_inC : OpD X ra (compareOp .In) (xInC false) := by
  refine ⟨_, op_in_sign, fun B H st x y z vx vy Q b d w rx ry e q => ?_⟩
  unfold xInC at e
  split at e
  · rename_i c t
    split at e
    · rename_i hc
      cases e
      refine ⟨c.cps.getD 0 0, t, ?_, ry, q _ H Ext.refl w (by rw [Bool.false_xor]; exact rfl)⟩
      rw [← one_sign hc]
      exact rx
    · cases e
  · cases e
theorem o_notInC : OpD X ra (compareOp .NotIn) (xInC true) := by
  refine ⟨_, op_notIn_sign, fun B H st x y z vx vy Q b d w rx ry e q => ?_⟩
  unfold xInC at e
  split at e
  · rename_i c t
    split at e
    · rename_i hc
      cases e
      refine ⟨c.cps.getD 0 0, t, ?_, ry, q _ H Ext.refl w (by rw [Bool.true_xor]; exact rfl)⟩
      rw [← one_sign hc]
      exact rx
    · cases e
  · cases e

/-! ### built-in functions -/
theorem reps1 {P : Par} {H : Hp} {B : Addr → Prop} {d : D} {vs : List V} (h : Reps P H B [d] vs) : ∃ v, vs = [v] ∧ Rep P H B d v := by
  obtain ⟨v, w, rfl, h1, h2⟩ := h
  cases (show w = [] from h2)
  exact ⟨v, rfl, h1⟩
theorem reps2 {P : Par} {H : Hp} {B : Addr → Prop} {d d' : D} {vs : List V} (h : Reps P H B [d, d'] vs) : ∃ v v', vs = [v, v'] ∧ Rep P H B d v ∧ Rep P H B d' v' := by
  obtain ⟨v, w, rfl, h1, h2⟩ := h
  obtain ⟨v', rfl, h3⟩ := reps1 h2
  exact ⟨v, v', rfl, h1, h3⟩
def xLen : List D → Option D
  | [.str z] => if z.length ≤ SZ then some (.int z.length) else none
  | [.lst xs] => some (.int xs.length)
  | [.tup xs] => some (.int xs.length)
  | _ => none
theorem c_len : CallD X ra (.builtin "len") xLen := by
  refine ⟨_, call_len, fun B H st xs z vs Q b d w rs e q => ?_⟩
  unfold xLen at e
  split at e
  · rename_i s
    split at e
    · rename_i hz
      cases e
      obtain ⟨v, rfl, h1⟩ := reps1 rs
      cases (show v = V.str s from h1)
      exact ⟨_, s.length, rfl, ⟨by rw [sz_eq]; exact hz, rfl⟩, q _ H Ext.refl w rfl⟩
    · cases e
  · rename_i xs
    cases e
    obtain ⟨v, rfl, a, ws, rfl, h1, _, h2⟩ := reps1 rs
    exact ⟨_, ws.length, rfl, .inl ⟨ws, SqL.of h1, rfl⟩, q _ H Ext.refl w (by rw [h2.length]; exact rfl)⟩
  · rename_i xs
    cases e
    obtain ⟨v, rfl, a, ws, rfl, h1, h2⟩ := reps1 rs
    exact ⟨_, ws.length, rfl, .inr ⟨ws, h1, rfl⟩, q _ H Ext.refl w (by rw [h2.length]; exact rfl)⟩
  · cases e
def xMin2 : List D → Option D
  | [.int i, .int j] => some (.int (if j < i then j else i))
  | _ => none
def xMax2 : List D → Option D
  | [.int i, .int j] => some (.int (if j > i then j else i))
  | _ => none
theorem c_min2 (hc : X.calm = true) : CallD X ra (.builtin "min") xMin2 := by
  refine ⟨_, call_min2 hc, fun B H st xs z vs Q b d w rs e q => ?_⟩
  unfold xMin2 at e
  split at e
  · rename_i i j
    cases e
    obtain ⟨v, v', rfl, h1, h2⟩ := reps2 rs
    cases (show v = V.int i from h1)
    cases (show v' = V.int j from h2)
    exact ⟨i, j, rfl, q _ H Ext.refl w rfl⟩
  · cases e
theorem c_max2 (hc : X.calm = true) : CallD X ra (.builtin "max") xMax2 := by
  refine ⟨_, call_max2 hc, fun B H st xs z vs Q b d w rs e q => ?_⟩
  unfold xMax2 at e
  split at e
  · rename_i i j
    cases e
    obtain ⟨v, v', rfl, h1, h2⟩ := reps2 rs
    cases (show v = V.int i from h1)
    cases (show v' = V.int j from h2)
    exact ⟨i, j, rfl, q _ H Ext.refl w rfl⟩
  · cases e
def xInt : List D → Option D
  | [.int i] => some (.int i)
  | [.bl b] => some (.int (if b then 1 else 0))
  | _ => none
theorem c_int : CallD X ra (.type "int") xInt := by
  refine ⟨_, call_int1, fun B H st xs z vs Q b d w rs e q => ?_⟩
  unfold xInt at e
  split at e
  · rename_i i
    cases e
    obtain ⟨v, rfl, h1⟩ := reps1 rs
    cases (show v = V.int i from h1)
    exact .inl ⟨i, rfl, q _ H Ext.refl w rfl⟩
  · rename_i i
    cases e
    obtain ⟨v, rfl, h1⟩ := reps1 rs
    cases (show v = V.bl i from h1)
    exact .inr ⟨i, rfl, q _ H Ext.refl w rfl⟩
  · cases e
def xTuple : List D → Option D
  | [.lst xs] => some (.tup xs)
  | [.tup xs] => some (.tup xs)
  | _ => none
theorem c_tuple : CallD X ra (.type "tuple") xTuple := by
  refine ⟨_, call_tuple_of, fun B H st xs z vs Q b d w rs e q => ?_⟩
  unfold xTuple at e
  split at e
  · rename_i xs
    cases e
    obtain ⟨v, rfl, a, ws, rfl, h1, hn, h2⟩ := reps1 rs
    exact ⟨a, ws, rfl, .inl ⟨SqL.of h1, fun l hl => q _ _ (Ext.new hl) (w.new hl) ⟨l, ws, rfl, SqT.of upd_same, h2.ext (Ext.new hl) (sub_ra (P := pr X ra) b)⟩⟩⟩
  · rename_i xs
    cases e
    obtain ⟨v, rfl, a, ws, rfl, h1, h2⟩ := reps1 rs
    exact ⟨a, ws, rfl, .inr ⟨h1, q _ H Ext.refl w ⟨a, ws, rfl, h1, h2⟩⟩⟩
  · cases e
def xList : List D → Option (List D)
  | [.lst xs] => some xs
  | [.tup xs] => some xs
  | _ => none
theorem c_list : CallF X ra (.type "list") xList := by
  refine ⟨_, call_list_of, fun B H st xs z vs Q b d w rs e q => ?_⟩
  unfold xList at e
  split at e
  · rename_i xs
    cases e
    obtain ⟨v, rfl, a, ws, rfl, h1, hn, h2⟩ := reps1 rs
    exact ⟨a, ws, rfl, .inl (SqL.of h1), fun l hl => q _ _ (Ext.new hl) (w.new hl) ⟨l, ws, rfl, hl, upd_same, h2.ext (Ext.new hl) (sub_ra (P := pr X ra) b)⟩⟩
  · rename_i xs
    cases e
    obtain ⟨v, rfl, a, ws, rfl, h1, h2⟩ := reps1 rs
    exact ⟨a, ws, rfl, .inr h1, fun l hl => q _ _ (Ext.new hl) (w.new hl) ⟨l, ws, rfl, hl, upd_same, h2.ext (Ext.new hl) (sub_ra (P := pr X ra) b)⟩⟩
  · cases e
/-- ints of data -/
def D.ints : List D → Option (List Int)
  | [] => some []
  | .int i :: ds => (D.ints ds).map (i :: ·)
  | _ :: _ => none
def D.bls : List D → Option (List Bool)
  | [] => some []
  | .bl i :: ds => (D.bls ds).map (i :: ·)
  | _ :: _ => none
theorem ints_rep {P : Par} {H : Hp} {B : Addr → Prop} : ∀ {ds : List D} {vs : List V} {ns : List Int}, Reps P H B ds vs → D.ints ds = some ns → vs = ns.map V.int
  | [], vs, ns, r, e => by cases e; exact r
  | .int i :: ds, vs, ns, r, e => by
    obtain ⟨v, w, rfl, h1, h2⟩ := r
    have e : (D.ints ds).map (i :: ·) = some ns := e
    cases hk : D.ints ds with
    | none => rw [hk] at e; cases e
    | some ms =>
      rw [hk] at e
      cases e
      cases (show v = V.int i from h1)
      rw [ints_rep h2 hk]
      all_goals rfl
  | .non :: _, _, _, _, e => by cases e
  | .bl _ :: _, _, _, _, e => by cases e
  | .str _ :: _, _, _, _, e => by cases e
  | .tup _ :: _, _, _, _, e => by cases e
  | .lst _ :: _, _, _, _, e => by cases e
  | .dic _ _ :: _, _, _, _, e => by cases e
  | .obj _ _ _ :: _, _, _, _, e => by cases e
  | .row :: _, _, _, _, e => by cases e
  | .cell _ _ :: _, _, _, _, e => by cases e
  | .fn _ :: _, _, _, _, e => by cases e
  | .lam _ :: _, _, _, _, e => by cases e
theorem bls_rep {P : Par} {H : Hp} {B : Addr → Prop} : ∀ {ds : List D} {vs : List V} {ns : List Bool}, Reps P H B ds vs → D.bls ds = some ns → vs = ns.map V.bl
  | [], vs, ns, r, e => by cases e; exact r
  | .bl i :: ds, vs, ns, r, e => by
    obtain ⟨v, w, rfl, h1, h2⟩ := r
    have e : (D.bls ds).map (i :: ·) = some ns := e
    cases hk : D.bls ds with
    | none => rw [hk] at e; cases e
    | some ms =>
      rw [hk] at e
      cases e
      cases (show v = V.bl i from h1)
      rw [bls_rep h2 hk]
      all_goals rfl
  | .non :: _, _, _, _, e => by cases e
  | .int _ :: _, _, _, _, e => by cases e
  | .str _ :: _, _, _, _, e => by cases e
  | .tup _ :: _, _, _, _, e => by cases e
  | .lst _ :: _, _, _, _, e => by cases e
  | .dic _ _ :: _, _, _, _, e => by cases e
  | .obj _ _ _ :: _, _, _, _, e => by cases e
  | .row :: _, _, _, _, e => by cases e
  | .cell _ _ :: _, _, _, _, e => by cases e
  | .fn _ :: _, _, _, _, e => by cases e
  | .lam _ :: _, _, _, _, e => by cases e
end
end Ev

namespace Ev
open PySem PySem.Spec PyProof.Rows L2
section
variable {X : Cx} {Tb : Tbs} {ra : RA Tb} {E : XK} {a b e : Expr} {es : List Expr} {ma mb m : EM} {am : AM} {pos p : Pos}

def xSum : List D → Option D
  | [.lst xs] => (D.ints xs).map fun ns => .int ns.sum
  | _ => none
theorem c_sum (hc : X.calm = true) : CallD X ra (.builtin "sum") xSum := by
  refine ⟨_, cr_sum hc, fun B H st xs z vs Q b d w rs e q => ?_⟩
  unfold xSum at e
  split at e
  · rename_i xs
    cases hk : D.ints xs with
    | none => rw [hk] at e; cases e
    | some ns =>
      rw [hk] at e
      cases e
      obtain ⟨v, rfl, a, ws, rfl, h1, _, h2⟩ := reps1 rs
      rw [ints_rep h2 hk] at h1
      exact ⟨a, ns, rfl, SqL.of h1, q _ H Ext.refl w rfl⟩
  · cases e
def xAll : List D → Option D
  | [.lst xs] => (D.bls xs).map fun ns => .bl (ns.all id)
  | _ => none
def xAny : List D → Option D
  | [.lst xs] => (D.bls xs).map fun ns => .bl (ns.any id)
  | _ => none
theorem c_all (hc : X.calm = true) : CallD X ra (.builtin "all") xAll := by
  refine ⟨_, cr_all hc, fun B H st xs z vs Q b d w rs e q => ?_⟩
  unfold xAll at e
  split at e
  · rename_i xs
    cases hk : D.bls xs with
    | none => rw [hk] at e; cases e
    | some ns =>
      rw [hk] at e
      cases e
      obtain ⟨v, rfl, a, ws, rfl, h1, _, h2⟩ := reps1 rs
      rw [bls_rep h2 hk] at h1
      exact ⟨a, ns, rfl, SqL.of h1, q _ H Ext.refl w rfl⟩
  · cases e
theorem c_any (hc : X.calm = true) : CallD X ra (.builtin "any") xAny := by
  refine ⟨_, cr_any hc, fun B H st xs z vs Q b d w rs e q => ?_⟩
  unfold xAny at e
  split at e
  · rename_i xs
    cases hk : D.bls xs with
    | none => rw [hk] at e; cases e
    | some ns =>
      rw [hk] at e
      cases e
      obtain ⟨v, rfl, a, ws, rfl, h1, _, h2⟩ := reps1 rs
      rw [bls_rep h2 hk] at h1
      exact ⟨a, ns, rfl, SqL.of h1, q _ H Ext.refl w rfl⟩
  · cases e

/-! ### order of data -/
def D.ord (x y : D) : Bool := x.plain && y.plain && PySem.W.alike x.py y.py && !x.isNon && decide (x.py.depth ≤ 64)
theorem py_none {x : D} (h : x.plain = true) (n : x.isNon = false) : x.py ≠ .none := by
  cases x with
  | non => cases n
  | dic _ _ => simp [D.plain] at h
  | obj _ _ _ => simp [D.plain] at h
  | row => simp [D.plain] at h
  | cell _ _ => simp [D.plain] at h
  | fn _ => simp [D.plain] at h
  | lam _ => simp [D.plain] at h
  | _ => simp [D.py]
def xLt : D → D → Option D := fun x y => if x.ord y = true then some (.bl (PySem.W.dataLt x.py y.py)) else none
def xGt : D → D → Option D := fun x y => if x.ord y = true then some (.bl (PySem.W.dataLt y.py x.py)) else none
def xLe : D → D → Option D := fun x y => if x.ord y = true then some (.bl (!PySem.W.dataLt y.py x.py)) else none
def xGe : D → D → Option D := fun x y => if x.ord y = true then some (.bl (!PySem.W.dataLt x.py y.py)) else none
theorem ord_of {x y : D} (h : x.ord y = true) : x.plain = true ∧ y.plain = true ∧ PySem.W.alike x.py y.py = true ∧ x.py ≠ .none ∧ x.py.depth ≤ 64 := by
  unfold D.ord at h
  simp only [Bool.and_eq_true, Bool.not_eq_true', decide_eq_true_eq] at h
  exact ⟨h.1.1.1.1, h.1.1.1.2, h.1.1.2, py_none h.1.1.1.1 h.1.2, h.2⟩
theorem o_lt (hu : X.A.units + 64 < cLine) : OpD X ra (compareOp .Lt) xLt := by
  refine opD_of fun pins s σ B H x y z vx vy u w Q I ru rw' rx ry e q => ?_
  unfold xLt at e
  split at e
  · rename_i hc
    cases e
    obtain ⟨h1, h2, h3, h4, h5⟩ := ord_of hc
    obtain ⟨as, r1⟩ := Dp.reads I _ _ u (Rep.dp x vx h1 rx) ru
    obtain ⟨bs, r2⟩ := Dp.reads I _ _ w (Rep.dp y vy h2 ry) rw'
    exact PySem.W.lt_data r1 r2 h3 h4 (Nat.lt_of_le_of_lt (Nat.add_le_add_left (Nat.le_trans (Nat.min_le_left _ _) h5) _) hu) ⟨.bl _, H, I, rfl, q _ rfl⟩
  · cases e
theorem o_gt (hu : X.A.units + 64 < cLine) : OpD X ra (compareOp .Gt) xGt := by
  refine opD_of fun pins s σ B H x y z vx vy u w Q I ru rw' rx ry e q => ?_
  unfold xGt at e
  split at e
  · rename_i hc
    cases e
    obtain ⟨h1, h2, h3, h4, h5⟩ := ord_of hc
    obtain ⟨as, r1⟩ := Dp.reads I _ _ u (Rep.dp x vx h1 rx) ru
    obtain ⟨bs, r2⟩ := Dp.reads I _ _ w (Rep.dp y vy h2 ry) rw'
    exact PySem.W.gt_data r1 r2 h3 h4 (Nat.lt_of_le_of_lt (Nat.add_le_add_left (Nat.le_trans (Nat.min_le_left _ _) h5) _) hu) ⟨.bl _, H, I, rfl, q _ rfl⟩
  · cases e
theorem o_le (hu : X.A.units + 64 < cLine) : OpD X ra (compareOp .LtE) xLe := by
  refine opD_of fun pins s σ B H x y z vx vy u w Q I ru rw' rx ry e q => ?_
  unfold xLe at e
  split at e
  · rename_i hc
    cases e
    obtain ⟨h1, h2, h3, h4, h5⟩ := ord_of hc
    obtain ⟨as, r1⟩ := Dp.reads I _ _ u (Rep.dp x vx h1 rx) ru
    obtain ⟨bs, r2⟩ := Dp.reads I _ _ w (Rep.dp y vy h2 ry) rw'
    exact PySem.W.le_data r1 r2 h3 h4 (Nat.lt_of_le_of_lt (Nat.add_le_add_left (Nat.le_trans (Nat.min_le_left _ _) h5) _) hu) ⟨.bl _, H, I, rfl, q _ rfl⟩
  · cases e
theorem o_ge (hu : X.A.units + 64 < cLine) : OpD X ra (compareOp .GtE) xGe := by
  refine opD_of fun pins s σ B H x y z vx vy u w Q I ru rw' rx ry e q => ?_
  unfold xGe at e
  split at e
  · rename_i hc
    cases e
    obtain ⟨h1, h2, h3, h4, h5⟩ := ord_of hc
    obtain ⟨as, r1⟩ := Dp.reads I _ _ u (Rep.dp x vx h1 rx) ru
    obtain ⟨bs, r2⟩ := Dp.reads I _ _ w (Rep.dp y vy h2 ry) rw'
    exact PySem.W.ge_data r1 r2 h3 h4 (Nat.lt_of_le_of_lt (Nat.add_le_add_left (Nat.le_trans (Nat.min_le_left _ _) h5) _) hu) ⟨.bl _, H, I, rfl, q _ rfl⟩
  · cases e

/-! ### sorted -/
def isTup1 : PyData → Bool
  | .tuple (_ :: _) => true
  | _ => false
def isAtom : PyData → Bool
  | .none => false
  | .tuple _ => false
  | _ => true
def sortable (ds : List D) : Bool := D.plains ds && ds.all (fun d => ds.all fun d' => PySem.W.alike d.py d'.py) && (ds.all (fun d => isTup1 d.py) || ds.all fun d => isAtom d.py) && ds.all (fun d => decide (d.py.depth ≤ 32)) && decide (ds.length ≤ SZ)
def sortD (ds : List D) : List D := ds.mergeSort (PySem.W.dataLe false D.py)
def xSorted : List D → Option (List D)
  | [.lst xs] => if sortable xs = true then some (sortD xs) else none
  | _ => none
theorem plains_mem : ∀ {ds : List D} {d : D}, D.plains ds = true → d ∈ ds → d.plain = true
  | d :: ds, x, h, hm => by
    have h' : d.plain = true ∧ D.plains ds = true := by simpa [D.plains] using h
    rcases List.mem_cons.mp hm with rfl | hm
    · exact h'.1
    · exact plains_mem h'.2 hm
theorem sortable_of {ds : List D} (h : sortable ds = true) : D.plains ds = true ∧ PySem.W.AllAlike (ds.map D.py) ∧ PySem.W.Sortable (ds.map D.py) ∧ (∀ d ∈ ds, d.py.depth ≤ 32) ∧ ds.length ≤ SZ := by
  unfold sortable at h
  simp only [Bool.and_eq_true, Bool.or_eq_true, List.all_eq_true, decide_eq_true_eq] at h
  obtain ⟨⟨⟨⟨h1, h2⟩, h3⟩, h4⟩, h5⟩ := h
  refine ⟨h1, fun d hd d' hd' => ?_, ?_, h4, h5⟩
  · obtain ⟨x, hx, rfl⟩ := List.mem_map.mp hd
    obtain ⟨y, hy, rfl⟩ := List.mem_map.mp hd'
    exact h2 x hx y hy
  · rcases h3 with h3 | h3
    · refine .inl fun d hd => ?_
      obtain ⟨x, hx, rfl⟩ := List.mem_map.mp hd
      have := h3 x hx
      unfold isTup1 at this
      split at this
      · rename_i u r e
        exact ⟨u, r, e⟩
      · cases this
    · refine .inr fun d hd => ?_
      obtain ⟨x, hx, rfl⟩ := List.mem_map.mp hd
      have := h3 x hx
      unfold isAtom at this
      split at this
      · cases this
      · cases this
      · rename_i n1 n2
        exact ⟨n1, n2⟩
theorem each_of {P : Par} {H : Hp} {B : Addr → Prop} {R : Value → D → Prop} : ∀ {ds : List D} {vs : List V} {us : List Value}, Reps P H B ds vs → Vals vs us → (∀ d v u, d ∈ ds → Rep P H B d v → RelV v u → R u d) → PySem.W.EachIs R us ds
  | [], vs, us, r, t, k => by
    cases (show vs = [] from r)
    cases t
    exact .nil
  | d :: ds, vs, us, r, t, k => by
    obtain ⟨v, w, rfl, h1, h2⟩ := r
    cases t with
    | cons a b => exact .cons (k d v _ List.mem_cons_self h1 a) (each_of h2 b fun d' v' u' m => k d' v' u' (List.mem_cons_of_mem _ m))
theorem of_each {P : Par} {H : Hp} {B : Addr → Prop} : ∀ {ds : List D} {us : List Value}, PySem.W.EachIs (fun u d => ∃ v, RelV v u ∧ Rep P H B d v) us ds → ∃ vs, Reps P H B ds vs ∧ Vals vs us
  | _, _, .nil => ⟨[], rfl, .nil⟩
  | _, _, .cons ⟨v, h1, h2⟩ t => by
    obtain ⟨vs, h3, h4⟩ := of_each t
    exact ⟨v :: vs, ⟨v, vs, rfl, h2, h3⟩, .cons h1 h4⟩
theorem callF_of {fn : Value} {f : List D → Option (List D)} (h : ∀ (pins : List (Addr × Obj)) (s : Shared) (σ : L2.St) (B : Addr → Prop) (H : Hp) (xs zs : List D) (vs : List V) (us : List Value) (Q : VK), (∀ a, isRa (pr X ra) a → B a) → Inv X pins σ H s → Vals vs us → Reps (pr X ra) H B xs vs → f xs = some zs →
    (∀ t ws, H t = none → Reps (pr X ra) H B zs ws → Q (.ref t) (upd H t (.lst ws))) → wpAny (model X.prog X.w) X.A (call fn us) (EP X pins σ Q) X.xe s) : CallF X ra fn f :=
  ⟨fun vs H Q => ∃ B xs zs, (∀ a, isRa (pr X ra) a → B a) ∧ Reps (pr X ra) H B xs vs ∧ f xs = some zs ∧ ∀ t ws, H t = none → Reps (pr X ra) H B zs ws → Q (.ref t) (upd H t (.lst ws)),
    fun pins s σ H vs us Q I ru ⟨B, xs, zs, hb, rx, e, q⟩ => h pins s σ B H xs zs vs us Q hb I ru rx e q,
    fun B H st xs zs vs Q b d w rs e q => ⟨B, xs, zs, sub_ra (P := pr X ra) b, rs, e, fun t ws ht r => q _ _ (Ext.new ht) (w.new ht) ⟨t, ws, rfl, ht, upd_same, r.ext (Ext.new ht) (sub_ra (P := pr X ra) b)⟩⟩⟩
theorem callD_of {fn : Value} {f : List D → Option D} (h : ∀ (pins : List (Addr × Obj)) (s : Shared) (σ : L2.St) (B : Addr → Prop) (H : Hp) (xs : List D) (z : D) (vs : List V) (us : List Value) (Q : VK), Inv X pins σ H s → Vals vs us → Reps (pr X ra) H B xs vs → f xs = some z →
    (∀ v, Rep (pr X ra) H B z v → Q v H) → wpAny (model X.prog X.w) X.A (call fn us) (EP X pins σ Q) X.xe s) : CallD X ra fn f :=
  ⟨fun vs H Q => ∃ B xs z, Reps (pr X ra) H B xs vs ∧ f xs = some z ∧ ∀ v, Rep (pr X ra) H B z v → Q v H,
    fun pins s σ H vs us Q I ru ⟨B, xs, z, rx, e, q⟩ => h pins s σ B H xs z vs us Q I ru rx e q,
    fun B H st xs z vs Q b d w rs e q => ⟨B, xs, z, rs, e, fun v r => q v H Ext.refl w r⟩⟩
theorem vals1' {v : V} {us : List Value} (r : Vals [v] us) : ∃ u, us = [u] ∧ RelV v u := vals1 r
theorem sorted_core {pins : List (Addr × Obj)} {s : Shared} {σ : L2.St} {B : Addr → Prop} {H : Hp} {xs : List D} {ws : List V} {its : List Value} {l : Addr} {Q : VK} (hu : X.A.units + 64 < cLine) (I : Inv X pins σ H s) (hl : s.heap.IsList l its.toArray) (rv : Vals ws its) (rs : Reps (pr X ra) H B xs ws) (hs : sortable xs = true)
    (q : ∀ t ws, H t = none → Reps (pr X ra) H B (sortD xs) ws → Q (.ref t) (upd H t (.lst ws))) : wpAny (model X.prog X.w) X.A (call (.builtin "sorted") [.ref l]) (EP X pins σ Q) X.xe s := by
  obtain ⟨h1, h2, h3, h4, h5⟩ := sortable_of hs
  refine PySem.W.sorted_data (R := fun u d => ∃ v, RelV v u ∧ Rep (pr X ra) H B d v) (bs := xs) (enc := D.py) hl (each_of rs rv fun d v u _ r t => ⟨v, t, r⟩) (each_of rs rv fun d v u m r t => ?_) h2 h3 (by rw [sz_eq]; exact h5) (fun d hd => ?_) fun out ho eo => ?_
  · exact Dp.reads I _ _ u (Rep.dp d v (plains_mem h1 m) r) t
  · have := h4 d hd
    omega
  · obtain ⟨wo, r1, r2⟩ := of_each eo
    obtain ⟨c, hc⟩ := PyProof.Rows.sortedAll_at s.heap its out.toArray
    have hn : H (s.heap.objs.size + 1) = none := I.hok.fresh (Nat.le_succ _)
    refine ⟨.ref (s.heap.objs.size + 1), _, I.laid (t' := s.toks) (o := .lst wo) (fun b o e => PyProof.Rows.sortedAll_old e) (Nat.le_succ _) ?_, rfl, q _ wo hn r1⟩
    refine ⟨?_, out, c, r2, hc⟩
    rw [r2.length, ho, sz_eq]
    exact h5
theorem c_sorted (hu : X.A.units + 64 < cLine) : CallF X ra (.builtin "sorted") xSorted := by
  refine callF_of fun pins s σ B H xs zs vs us Q hb I ru rx e q => ?_
  unfold xSorted at e
  split at e
  · rename_i xs
    split at e
    · rename_i hs
      cases e
      obtain ⟨v, rfl, l, ws, rfl, hl, _, rs⟩ := reps1 rx
      obtain ⟨u, rfl, r1⟩ := vals1' ru
      cases r1
      obtain ⟨its, rv, pl, _⟩ := I.list (SqL.of (K := X.K) hl)
      exact sorted_core hu I pl.isList rv rs hs q
    · cases e
  · cases e

/-! ### lists: +, * -/
def catF : List D → List D → Option (List D) := fun xs ys => if xs.length + ys.length ≤ SZ then some (xs ++ ys) else none
def fAdd (a b : EM) : AM := fun ρ st => (a ρ st).bind fun x st1 => (b ρ st1).bind fun y st2 => match x, y with
  | .lst xs, .lst ys => Res.of (catF xs ys) st2
  | _, _ => .stuck
theorem df_add (ha : DE X ra E a ma) (hb : DE X ra E b mb) : DF X ra E (.BinOp a .Add b pos) (fAdd ma mb) := by
  refine PE.imp (pe_op op_cat ha hb) fun σ H Q ⟨B, ρ, st, p, q⟩ => ⟨B, ρ, st, p, Post.seq q fun x st1 v H1 _ e1 w1 rx q1 => ?_⟩
  have p1 := p.ext e1 w1
  refine ⟨B, ρ, st1, p1, Post.seq q1 fun y st2 vy H2 _ e2 w2 ry q2 => ?_⟩
  have rx2 := rx.ext e2 (sub_ra p.bra)
  cases x with
  | lst xs =>
    cases y with
    | lst ys =>
      obtain ⟨l, vs, rfl, h1, n1, r1⟩ := rx2
      obtain ⟨l2, vs2, rfl, h2, n2, r2⟩ := ry
      have q2 : Post (pr X ra) B H2 E (FR (pr X ra) H B) Q (Res.of (catF xs ys) st2) := q2
      unfold catF at q2
      by_cases hz : xs.length + ys.length ≤ SZ
      · rw [if_pos hz] at q2
        exact ⟨l, l2, vs, vs2, rfl, rfl, h1, h2, by rw [sz_eq, r1.length, r2.length]; exact hz, fun t ht => q2 (.ref t) _ (Ext.new ht) (w2.new ht) ⟨t, _, rfl, e1.fresh (e2.fresh ht), upd_same, (r1.append r2).ext (Ext.new ht) (sub_ra p.bra)⟩⟩
      · rw [if_neg hz] at q2
        exact q2.elim
    | _ => exact q2.elim
  | _ => cases y <;> exact q2.elim
def repD : List D → Nat → List D
  | _, 0 => []
  | xs, k + 1 => xs ++ repD xs k

/-! ### isinstance -/
def D.tyn : D → String
  | .non => "NoneType"
  | .bl _ => "bool"
  | .int _ => "int"
  | .str _ => "str"
  | .tup _ => "tuple"
  | .lst _ => "list"
  | .dic [] _ => "dict"
  | .dic (_ :: _) _ => ""
  | .obj _ _ _ => ""
  | .row => ""
  | .cell _ _ => ""
  | .fn _ => ""
  | .lam _ => ""
def isiT (T : String) (d : D) : Option Bool := if ["int", "str", "tuple", "list", "dict", "bool"].contains T = true ∧ d.tyn ≠ "" then some (d.tyn == T || (d.tyn == "bool" && T == "int")) else none
theorem kitB_ok {t T : String} (h1 : t ∈ ["NoneType", "bool", "int", "str", "tuple", "list", "dict"]) (h2 : T ∈ ["int", "str", "tuple", "list", "dict", "bool"]) : kitB t T = some (t == T || (t == "bool" && T == "int")) := by
  simp only [List.mem_cons, List.not_mem_nil, or_false] at h1 h2
  rcases h1 with rfl | rfl | rfl | rfl | rfl | rfl | rfl <;> rcases h2 with rfl | rfl | rfl | rfl | rfl | rfl <;> decide +kernel
theorem tyx_of {K : PySem.W.Frag} {mg : Str → Option Value} {w : World} {H : Hp} {B : Addr → Prop} {d : D} {v : V} (r : Rep ⟨K, mg, ra.a, w, Tb, ra.L⟩ H B d v) (n : d.tyn ≠ "") : TyX K H v (.type d.tyn) := by
  cases d with
  | non => rw [show v = .non from r]; exact .base .non
  | bl b => rw [show v = .bl b from r]; exact .base (.bl b)
  | int i => rw [show v = .int i from r]; exact .base (.int i)
  | str x => rw [show v = .str x from r]; exact .base (.str x)
  | tup xs =>
    obtain ⟨a, vs, rfl, h, _⟩ := r
    rcases h with (h | ⟨o, h⟩) | ⟨o, its, k, h, c, _⟩
    · exact .base (.tup h)
    · exact .fTuple h
    · exact .kTuple h c
  | lst xs =>
    obtain ⟨a, vs, rfl, h, _⟩ := r
    exact .base (.lst h)
  | dic ks ws =>
    cases ks with
    | nil =>
      obtain ⟨a, o, kvs, rfl, h, dd, _⟩ := r
      rcases dd with ⟨_, _, rfl⟩ | ⟨z, _⟩
      · exact .base (.dK h)
      · exact absurd rfl z
    | cons k ks => exact absurd rfl n
  | obj c ns fs => exact absurd rfl n
  | row => exact absurd rfl n
  | cell _ _ => exact absurd rfl n
  | fn _ => exact absurd rfl n
  | lam _ => exact absurd rfl n
def cIsi (T : String) (m : EM) : EM := fun ρ st => (m ρ st).bind fun d st1 => Res.of ((isiT T d).map D.bl) st1
theorem tyn_mem {d : D} (n : d.tyn ≠ "") : d.tyn ∈ ["NoneType", "bool", "int", "str", "tuple", "list", "dict"] := by
  match d, n with
  | .non, _ => simp [D.tyn]
  | .bl _, _ => simp [D.tyn]
  | .int _, _ => simp [D.tyn]
  | .str _, _ => simp [D.tyn]
  | .tup _, _ => simp [D.tyn]
  | .lst _, _ => simp [D.tyn]
  | .dic [] _, _ => simp [D.tyn]
  | .dic (_ :: _) _, n => exact absurd rfl n
  | .obj _ _ _, n => exact absurd rfl n
  | .row, n => exact absurd rfl n
  | .cell _ _, n => exact absurd rfl n
  | .fn _, n => exact absurd rfl n
  | .lam _, n => exact absurd rfl n
theorem de_isi {T : String} {x : Str} {p1 p2 : Pos} (hg : Gl X "isinstance") (hm : X.mg "isinstance" = none) (hb : bootBuiltins "isinstance" = some (.builtin "isinstance")) (he : DE X ra E e m) (hg2 : Gl X x) (hm2 : X.mg x = none) (hb2 : bootBuiltins x = some (.type T))
    (hn2 : x ≠ "__name__" := by decide) (hd2 : (x == ("__debug__" : Str)) = false := by decide)
    (hs : starEach [e, .Name x p2] X.env = (false, eval e X.env) :: starEach [.Name x p2] X.env := by rfl) (hs2 : starEach [.Name x p2] X.env = (false, eval (.Name x p2) X.env) :: starEach [] X.env := by rfl) (hpl : (backTo pos (starEach [.Name x p2] X.env)).any (·.1) = false := by rfl) :
    DE X ra E (.Call (.Name "isinstance" p1) [e, .Name x p2] [] pos) (cIsi T m) := by
  refine PE.imp (pe_callB call_isi hg hm hb (pa_cons he (pa_cons (pe_bltn (v := .ty T) hg2 hm2 hb2 rfl hn2 hd2) pa_nil hs2) hs) (by decide) (by decide) hs hpl) fun σ H Q ⟨B, ρ, st, p, q⟩ => ⟨B, ρ, st, p, Post.seq q fun d st1 v H1 _ e1 w1 r q1 => ?_⟩
  unfold isiT at q1
  split at q1
  · rename_i hc
    refine ⟨v, .ty T, .type d.tyn, .type T, _, rfl, .ty T, tyx_of r hc.2, kit_ty (kitB_ok (tyn_mem hc.2) (by simpa using hc.1)), q1 _ H1 Ext.refl w1 rfl⟩
  · exact q1.elim
/-- isinstance(x, (T1, T2)) -/
def cIsi2 (T T' : String) (m : EM) : EM := fun ρ st => (m ρ st).bind fun d st1 => (Res.of (isiT T d) st1).bind fun b st1 => (Res.of (isiT T' d) st1).bind fun b' st1 => .ok (.bl (b || b')) st1
theorem de_isi2 {T T' : String} {x y : Str} {p1 p2 p3 p4 : Pos} {kk} (hg : Gl X "isinstance") (hm : X.mg "isinstance" = none) (hb : bootBuiltins "isinstance" = some (.builtin "isinstance")) (he : DE X ra E e m) (hg2 : Gl X x) (hm2 : X.mg x = none) (hb2 : bootBuiltins x = some (.type T)) (hg3 : Gl X y) (hm3 : X.mg y = none) (hb3 : bootBuiltins y = some (.type T'))
    (hn2 : x ≠ "__name__" := by decide) (hd2 : (x == ("__debug__" : Str)) = false := by decide) (hn3 : y ≠ "__name__" := by decide) (hd3 : (y == ("__debug__" : Str)) = false := by decide)
    (ht : starEach [.Name x p2, .Name y p3] X.env = (false, eval (.Name x p2) X.env) :: starEach [.Name y p3] X.env := by rfl) (ht2 : starEach [.Name y p3] X.env = (false, eval (.Name y p3) X.env) :: starEach [] X.env := by rfl)
    (hs : starEach [e, .Tuple [.Name x p2, .Name y p3] kk p4] X.env = (false, eval e X.env) :: starEach [.Tuple [.Name x p2, .Name y p3] kk p4] X.env := by rfl) (hs2 : starEach [.Tuple [.Name x p2, .Name y p3] kk p4] X.env = (false, eval (.Tuple [.Name x p2, .Name y p3] kk p4) X.env) :: starEach [] X.env := by rfl) (hpl : (backTo pos (starEach [.Tuple [.Name x p2, .Name y p3] kk p4] X.env)).any (·.1) = false := by rfl) :
    DE X ra E (.Call (.Name "isinstance" p1) [e, .Tuple [.Name x p2, .Name y p3] kk p4] [] pos) (cIsi2 T T' m) := by
  refine PE.imp (pe_callB call_isiT hg hm hb (pa_cons he (pa_cons (pe_tup (pa_cons (pe_bltn (v := .ty T) hg2 hm2 hb2 rfl hn2 hd2) (pa_cons (pe_bltn (v := .ty T') hg3 hm3 hb3 rfl hn3 hd3) pa_nil ht2) ht)) pa_nil hs2) hs) (by decide) (by decide) hs hpl) fun σ H Q ⟨B, ρ, st, p, q⟩ => ⟨B, ρ, st, p, Post.seq q fun d st1 v H1 _ e1 w1 r q1 => ?_⟩
  refine ⟨by show 2 ≤ sizeLine; decide, fun t ht => ?_⟩
  unfold isiT at q1
  split at q1
  · rename_i hc
    have q1 : EPost (pr X ra) B H1 E Q ((Res.of (if ["int", "str", "tuple", "list", "dict", "bool"].contains T' = true ∧ d.tyn ≠ "" then some (d.tyn == T' || (d.tyn == "bool" && T' == "int")) else none) st1).bind fun b' st1 => .ok (.bl ((d.tyn == T || (d.tyn == "bool" && T == "int")) || b')) st1) := q1
    split at q1
    · rename_i hc2
      have q1 : EPost (pr X ra) B H1 E Q (.ok (.bl ((d.tyn == T || (d.tyn == "bool" && T == "int")) || (d.tyn == T' || (d.tyn == "bool" && T' == "int")))) st1) := q1
      have k1 := kitB_ok (tyn_mem hc.2) (by simpa using hc.1 : T ∈ ["int", "str", "tuple", "list", "dict", "bool"])
      have k2 := kitB_ok (tyn_mem hc.2) (by simpa using hc2.1 : T' ∈ ["int", "str", "tuple", "list", "dict", "bool"])
      have k : PySem.W.kitAny X.K (.type d.tyn) [.type T, .type T'] = some ((d.tyn == T || (d.tyn == "bool" && T == "int")) || (d.tyn == T' || (d.tyn == "bool" && T' == "int"))) :=
        kitAny_cons (kit_ty k1) (fun h => kitAny_cons (kit_ty k2) (fun h' => by rw [h, h']; exact kitAny_nil) (fun h' => by rw [h']; simp)) (fun h => by rw [h]; rfl)
      exact ⟨v, t, [.ty T, .ty T'], .type d.tyn, [.type T, .type T'], _, rfl, upd_same, .cons (.ty T) (.cons (.ty T') .nil), tyx_of (r.ext (Ext.new ht) (sub_ra p.bra)) hc.2, k, q1 (.bl _) _ (Ext.new ht) (w1.new ht) rfl⟩
    · exact q1.elim
  · exact q1.elim
end
end Ev

namespace Ev
open PySem PySem.Spec PyProof.Rows L2

/-! ### names that hold data: shared, owned (a list that no other name knows), lent (owned, while it is walked) -/
inductive Kd where
  | sh | own | lent
  deriving DecidableEq
abbrev SE := List (Option (Kd × D))
def er (ρ : SE) : EE := ρ.map (Option.map fun q => q.2)
def erS (ρ : SE) : EE := ρ.map fun o => match o with
  | some (.sh, d) => some d
  | _ => none
def erL (ρ : SE) : EE := ρ.map fun o => match o with
  | some (.sh, d) => some d
  | some (.lent, d) => some d
  | _ => none
def OwnA (σ : L2.St) (ρ : SE) (a : Addr) : Prop := ∃ (i : Nat) (k : Kd) (d : D), ρ[i]? = some (some (k, d)) ∧ k ≠ .sh ∧ σ[i]? = some (some (.ref a))
def OwnB (σ : L2.St) (ρ : SE) (ls : List Nat) (a : Addr) : Prop := ∃ (i : Nat) (k : Kd) (d : D), i ∉ ls ∧ ρ[i]? = some (some (k, d)) ∧ k ≠ .sh ∧ σ[i]? = some (some (.ref a))
/-- the datum stands at a, its parts off what is banned -/
def Top (P : Par) (H : Hp) (B : Addr → Prop) (d : D) (a : Addr) : Prop :=
  match d with
  | .lst xs => ∃ vs, H a = some (.lst vs) ∧ Reps P H B xs vs
  | .dic ks ws => ∃ o kvs, H a = some o ∧ DicAt P.w a ks kvs o ∧ Reps P H B ks (kvs.map fun q => q.1) ∧ Reps P H B ws (kvs.map fun q => q.2)
  | _ => False
abbrev Tmp := D × V × List Nat
/-- what holds between two statements; C: places that are new and in nothing -/
structure GoodC (P : Par) (H0 : Hp) (B C : Addr → Prop) (τ : List Tmp) (σ : L2.St) (ρ : SE) (H : Hp) (st : DS) : Prop where
  bra : B P.ra
  dom0 : ∀ b, B b → H0 b ≠ none
  row : Row P H st
  ext : Ext (isRa P) H0 H
  new : ∀ c, C c → H0 c = none
  sh : ∀ (i : Nat) (d : D), ρ[i]? = some (some (.sh, d)) → ∃ v, σ[i]? = some (some v) ∧ Rep P H (fun a => (B a ∨ OwnA σ ρ a) ∨ C a) d v
  own : ∀ (i : Nat) (k : Kd) (d : D), ρ[i]? = some (some (k, d)) → k ≠ .sh → ∃ a, σ[i]? = some (some (.ref a)) ∧ H0 a = none ∧ ¬ C a ∧ Top P H (fun a => (B a ∨ OwnA σ ρ a) ∨ C a) d a
  dis : ∀ (i j : Nat) (k k' : Kd) (d d' : D) (a : Addr), ρ[i]? = some (some (k, d)) → k ≠ .sh → ρ[j]? = some (some (k', d')) → k' ≠ .sh → σ[i]? = some (some (.ref a)) → σ[j]? = some (some (.ref a)) → i = j
  tmp : ∀ t ∈ τ, Rep P H (fun a => (B a ∨ OwnB σ ρ t.2.2 a) ∨ C a) t.1 t.2.1
  pin : ∀ t ∈ τ, ∀ i ∈ t.2.2, ∃ d, ρ[i]? = some (some (.lent, d))
  len : ρ.length ≤ σ.length
abbrev noC : Addr → Prop := fun _ => False
abbrev Good (P : Par) (H0 : Hp) (B : Addr → Prop) (τ : List Tmp) (σ : L2.St) (ρ : SE) (H : Hp) (st : DS) : Prop := GoodC P H0 B noC τ σ ρ H st

section
variable {P : Par} {H0 H H' : Hp} {B C C' : Addr → Prop} {τ : List Tmp} {σ : L2.St} {ρ : SE} {st st' : DS}
theorem dicAt_mt {w : World} {a : Addr} {ks : List D} {kvs : List (V × V)} {o : HO} (h : DicAt w a ks kvs o) : Mt o := by
  rcases h with ⟨_, _, rfl⟩ | ⟨_, es, ep, rfl, _⟩
  · exact trivial
  · exact ⟨_, _, _, rfl⟩
theorem Top.ext {X : Addr → Prop} {d : D} {a : Addr} (h : Top P H B d a) (e : Ext X H H') (s : ∀ a, X a → B a) (n : ¬ X a) : Top P H' B d a := by
  cases d with
  | lst xs =>
    obtain ⟨vs, h1, h2⟩ := h
    exact ⟨vs, e.keep _ _ h1 (fun z => n z.1) trivial, h2.ext e s⟩
  | dic ks ws =>
    obtain ⟨o, vs, h1, dd, h2, h3⟩ := h
    exact ⟨o, vs, e.keep _ _ h1 (fun z => n z.1) (dicAt_nt dd), dd, h2.ext e s, h3.ext e s⟩
  | _ => exact h.elim
theorem Top.less {B' : Addr → Prop} {d : D} {a : Addr} (h : Top P H B d a) (s : ∀ a, B' a → B a) : Top P H B' d a := by
  cases d with
  | lst xs =>
    obtain ⟨vs, h1, h2⟩ := h
    exact ⟨vs, h1, h2.less s⟩
  | dic ks ws =>
    obtain ⟨o, vs, h1, dd, h2, h3⟩ := h
    exact ⟨o, vs, h1, dd, h2.less s, h3.less s⟩
  | _ => exact h.elim
theorem Top.there {d : D} {a : Addr} (h : Top P H B d a) : ∃ o, H a = some o ∧ Mt o := by
  cases d with
  | lst xs =>
    obtain ⟨vs, h1, h2⟩ := h
    exact ⟨_, h1, trivial⟩
  | dic ks ws =>
    obtain ⟨o, vs, h1, dd, h2, h3⟩ := h
    exact ⟨o, h1, dicAt_mt dd⟩
  | _ => exact h.elim
theorem Top.rep {d : D} {a : Addr} (h : Top P H B d a) (n : ¬ B a) : Rep P H B d (.ref a) := by
  cases d with
  | lst xs =>
    obtain ⟨vs, h1, h2⟩ := h
    exact ⟨a, vs, rfl, h1, n, h2⟩
  | dic ks ws =>
    obtain ⟨o, vs, h1, dd, h2, h3⟩ := h
    exact ⟨a, o, vs, rfl, h1, dd, n, h2, h3⟩
  | _ => exact h.elim
/-! new places are in nothing -/
mutual
theorem Rep.freshC (hp : ∀ a, C a → H a = none) : ∀ (d : D) (v : V), Rep P H B d v → Rep P H (fun a => B a ∨ C a) d v
  | .non, _, h => h
  | .bl _, _, h => h
  | .int _, _, h => h
  | .str _, _, h => h
  | .tup ds, v, h => by
    obtain ⟨a, vs, e, s, r⟩ := h
    exact ⟨a, vs, e, s, Reps.freshC hp ds vs r⟩
  | .lst ds, v, h => by
    obtain ⟨a, vs, e, s, n, r⟩ := h
    exact ⟨a, vs, e, s, (fun z => z.elim n fun q => by rw [hp a q] at s; cases s), Reps.freshC hp ds vs r⟩
  | .dic ks ws, v, h => by
    obtain ⟨a, o, kvs, e, s, dd, n, r, r2⟩ := h
    exact ⟨a, o, kvs, e, s, dd, (fun z => z.elim n fun q => by rw [hp a q] at s; cases s), Reps.freshC hp ks _ r, Reps.freshC hp ws _ r2⟩
  | .obj c ns fs, v, h => by
    obtain ⟨a, K, dx, fl, e, m, s, f, r⟩ := h
    exact ⟨a, K, dx, fl, e, m, s, f, Reps.freshC hp fs _ r⟩
  | .row, _, h => h
  | .cell a o, v, h => by
    obtain ⟨e, s, n, t⟩ := h
    exact ⟨e, s, (fun z => z.elim n fun q => by rw [hp a q] at s; cases s), t⟩
  | .fn _, _, h => h
  | .lam _, v, h => by
    obtain ⟨f, e, s, n, t⟩ := h
    exact ⟨f, e, s, (fun z => z.elim n fun q => by rw [hp f q] at s; cases s), t⟩
theorem Reps.freshC (hp : ∀ a, C a → H a = none) : ∀ (ds : List D) (vs : List V), Reps P H B ds vs → Reps P H (fun a => B a ∨ C a) ds vs
  | [], _, h => h
  | d :: ds, vs, h => by
    obtain ⟨v, r, e, h1, h2⟩ := h
    exact ⟨v, r, e, Rep.freshC hp d v h1, Reps.freshC hp ds r h2⟩
end
theorem er_get {i : Nat} {d : D} (h : (er ρ)[i]? = some (some d)) : ∃ k, ρ[i]? = some (some (k, d)) := by
  unfold er at h
  rw [List.getElem?_map] at h
  cases e : ρ[i]? with
  | none => rw [e] at h; cases h
  | some o =>
    rw [e] at h
    cases o with
    | none => cases h
    | some q =>
      cases h
      exact ⟨q.1, rfl⟩
theorem erS_get {i : Nat} {d : D} (h : (erS ρ)[i]? = some (some d)) : ρ[i]? = some (some (.sh, d)) := by
  unfold erS at h
  rw [List.getElem?_map] at h
  cases e : ρ[i]? with
  | none => rw [e] at h; cases h
  | some o =>
    rw [e] at h
    cases o with
    | none => cases h
    | some q =>
      obtain ⟨k, d'⟩ := q
      cases k with
      | sh => cases h; rfl
      | own => cases h
      | lent => cases h
theorem erL_get {i : Nat} {d : D} (h : (erL ρ)[i]? = some (some d)) : ρ[i]? = some (some (.sh, d)) ∨ ρ[i]? = some (some (.lent, d)) := by
  unfold erL at h
  rw [List.getElem?_map] at h
  cases e : ρ[i]? with
  | none => rw [e] at h; cases h
  | some o =>
    rw [e] at h
    cases o with
    | none => cases h
    | some q =>
      obtain ⟨k, d'⟩ := q
      cases k with
      | sh => cases h; exact .inl rfl
      | own => cases h
      | lent => cases h; exact .inr rfl
theorem er_length : (er ρ).length = ρ.length := by unfold er; rw [List.length_map]
theorem erS_length : (erS ρ).length = ρ.length := by unfold erS; rw [List.length_map]
theorem erL_length : (erL ρ).length = ρ.length := by unfold erL; rw [List.length_map]

theorem GoodC.ownH (g : GoodC P H0 B C τ σ ρ H st) {a : Addr} (h : OwnA σ ρ a) : H0 a = none ∧ ¬ C a ∧ ∃ o, H a = some o ∧ Mt o := by
  obtain ⟨i, k, d, h1, h2, h3⟩ := h
  obtain ⟨a', e, h4, h5, h6⟩ := g.own i k d h1 h2
  rw [h3] at e
  cases e
  exact ⟨h4, h5, h6.there⟩
theorem GoodC.notB (g : GoodC P H0 B C τ σ ρ H st) {a : Addr} (h : H0 a = none) : ¬ B a := fun z => g.dom0 a z h
/-- the whole of what the names hold, off what was banned at the entry -/
theorem GoodC.pre (g : GoodC P H0 B C τ σ ρ H st) : Pre P B σ (er ρ) H st := by
  refine ⟨g.bra, fun b z => g.ext.dom b (g.dom0 b z), g.row, fun i d h => ?_, by rw [er_length]; exact g.len⟩
  obtain ⟨k, h⟩ := er_get h
  by_cases hk : k = .sh
  · subst hk
    obtain ⟨v, a, b⟩ := g.sh i d h
    exact ⟨v, a, b.less fun a z => .inl (.inl z)⟩
  · obtain ⟨a, e, h1, h2, h3⟩ := g.own i k d h hk
    exact ⟨_, e, (h3.less fun a z => .inl (.inl z)).rep (g.notB h1)⟩
/-- what is shared, off all that is owned -/
theorem GoodC.preS (g : GoodC P H0 B C τ σ ρ H st) : Pre P (fun a => B a ∨ OwnA σ ρ a) σ (erS ρ) H st := by
  refine ⟨.inl g.bra, fun b z => z.elim (fun z => g.ext.dom b (g.dom0 b z)) fun z => ?_, g.row, fun i d h => ?_, by rw [erS_length]; exact g.len⟩
  · obtain ⟨_, _, o, e, _⟩ := g.ownH z
    rw [e]
    exact fun z => nomatch z
  · obtain ⟨v, a, b⟩ := g.sh i d (erS_get h)
    exact ⟨v, a, b.less fun a z => .inl z⟩
/-- what is shared or lent, off the rest -/
theorem GoodC.preL (g : GoodC P H0 B C τ σ ρ H st) {ls : List Nat} (hl : ∀ i d, ρ[i]? = some (some (.lent, d)) → i ∈ ls) (hl2 : ∀ i ∈ ls, ∃ d, ρ[i]? = some (some (.lent, d))) : Pre P (fun a => B a ∨ OwnB σ ρ ls a) σ (erL ρ) H st := by
  have sub : ∀ a, OwnB σ ρ ls a → OwnA σ ρ a := fun a ⟨i, k, d, _, h1, h2, h3⟩ => ⟨i, k, d, h1, h2, h3⟩
  refine ⟨.inl g.bra, fun b z => z.elim (fun z => g.ext.dom b (g.dom0 b z)) fun z => ?_, g.row, fun i d h => ?_, by rw [erL_length]; exact g.len⟩
  · obtain ⟨_, _, o, e, _⟩ := g.ownH (sub b z)
    rw [e]
    exact fun z => nomatch z
  · rcases erL_get h with h | h
    · obtain ⟨v, a, b⟩ := g.sh i d h
      exact ⟨v, a, b.less fun a z => .inl (z.imp id (sub a))⟩
    · obtain ⟨a, e, h1, h2, h3⟩ := g.own i .lent d h (by decide)
      refine ⟨_, e, (h3.less fun a z => .inl (z.imp id (sub a))).rep fun z => z.elim (g.notB h1) ?_⟩
      rintro ⟨j, k, d', n, q1, q2, q3⟩
      have := g.dis i j .lent k d d' a h (by decide) q1 q2 e q3
      subst this
      exact n (hl i d h)
/-- the heap has grown -/
theorem GoodC.step (g : GoodC P H0 B C τ σ ρ H st) (e : Ext (isRa P) H H') (r : Row P H' st') : GoodC P H0 B C τ σ ρ H' st' := by
  refine ⟨g.bra, g.dom0, r, g.ext.trans e, g.new, fun i d h => ?_, fun i k d h hk => ?_, g.dis, fun t m => (g.tmp t m).ext e fun a z => by rw [z]; exact .inl (.inl g.bra), g.pin, g.len⟩
  · obtain ⟨v, a, b⟩ := g.sh i d h
    exact ⟨v, a, b.ext e fun a z => by rw [z]; exact .inl (.inl g.bra)⟩
  · obtain ⟨a, q, h1, h2, h3⟩ := g.own i k d h hk
    exact ⟨a, q, h1, h2, h3.ext e (fun a z => by rw [z]; exact .inl (.inl g.bra)) fun z => g.notB h1 (by rw [show a = P.ra from z]; exact g.bra)⟩
/-- new places are looked after -/
theorem GoodC.more (g : Good P H0 B τ σ ρ H st) (h : ∀ a, C a → H a = none) : GoodC P H0 B C τ σ ρ H st := by
  refine ⟨g.bra, g.dom0, g.row, g.ext, fun c z => g.ext.fresh (h c z), fun i d q => ?_, fun i k d q hk => ?_, g.dis, fun t m => (Rep.freshC h _ _ (g.tmp t m)).less fun a z => z.imp .inl id, g.pin, g.len⟩
  · obtain ⟨v, a, b⟩ := g.sh i d q
    exact ⟨v, a, (Rep.freshC h _ _ b).less fun a z => z.imp .inl id⟩
  · obtain ⟨a, q1, h1, h2, h3⟩ := g.own i k d q hk
    have nC : ¬ C a := fun z => by
      obtain ⟨o, e, _⟩ := h3.there
      rw [h a z] at e
      cases e
    refine ⟨a, q1, h1, nC, ?_⟩
    cases d with
    | lst xs =>
      obtain ⟨vs, e1, e2⟩ := h3
      exact ⟨vs, e1, (Reps.freshC h _ _ e2).less fun a z => z.imp .inl id⟩
    | dic ks ws =>
      obtain ⟨o, vs, e1, dd, e2, e3⟩ := h3
      exact ⟨o, vs, e1, dd, (Reps.freshC h _ _ e2).less fun a z => z.imp .inl id, (Reps.freshC h _ _ e3).less fun a z => z.imp .inl id⟩
    | _ => exact h3.elim
theorem GoodC.lessC (g : GoodC P H0 B C τ σ ρ H st) (s : ∀ a, C' a → C a) : GoodC P H0 B C' τ σ ρ H st := by
  refine ⟨g.bra, g.dom0, g.row, g.ext, fun c z => g.new c (s c z), fun i d q => ?_, fun i k d q hk => ?_, g.dis, fun t m => (g.tmp t m).less fun a z => z.imp id (s a), g.pin, g.len⟩
  · obtain ⟨v, a, b⟩ := g.sh i d q
    exact ⟨v, a, b.less fun a z => z.imp id (s a)⟩
  · obtain ⟨a, q1, h1, h2, h3⟩ := g.own i k d q hk
    exact ⟨a, q1, h1, fun z => h2 (s a z), h3.less fun a z => z.imp id (s a)⟩
def notLent (ρ : SE) (i : Nat) : Bool := match ρ[i]? with
  | some (some (.lent, _)) => false
  | _ => true
theorem notLent_of {i : Nat} (h : notLent ρ i = true) {d : D} : ρ[i]? ≠ some (some (.lent, d)) := fun e => by
  unfold notLent at h
  rw [e] at h
  cases h
/-- where a name is stored, the other names' own places stay -/
theorem ownA_set {i : Nat} {v : V} {k : Kd} {d : D} {a : Addr} (h : OwnA (σ.set i (some v)) (ρ.set i (some (k, d))) a) : OwnA σ ρ a ∨ (k ≠ .sh ∧ v = .ref a) := by
  obtain ⟨j, k', d', h1, h2, h3⟩ := h
  by_cases hj : i = j
  · subst hj
    by_cases hl : i < ρ.length
    · rw [List.getElem?_set_self hl] at h1
      cases h1
      by_cases hl2 : i < σ.length
      · rw [List.getElem?_set_self hl2] at h3
        cases h3
        exact .inr ⟨h2, rfl⟩
      · rw [List.getElem?_eq_none (by simpa using hl2)] at h3
        cases h3
    · rw [List.getElem?_eq_none (by simpa using hl)] at h1
      cases h1
  · rw [List.getElem?_set_ne hj] at h1 h3
    exact .inl ⟨j, k', d', h1, h2, h3⟩
theorem ownB_set {i : Nat} {v : V} {k : Kd} {d : D} {a : Addr} {ls : List Nat} (h : OwnB (σ.set i (some v)) (ρ.set i (some (k, d))) ls a) : OwnB σ ρ ls a ∨ (k ≠ .sh ∧ v = .ref a) := by
  obtain ⟨j, k', d', n, h1, h2, h3⟩ := h
  by_cases hj : i = j
  · subst hj
    by_cases hl : i < ρ.length
    · rw [List.getElem?_set_self hl] at h1
      cases h1
      by_cases hl2 : i < σ.length
      · rw [List.getElem?_set_self hl2] at h3
        cases h3
        exact .inr ⟨h2, rfl⟩
      · rw [List.getElem?_eq_none (by simpa using hl2)] at h3
        cases h3
    · rw [List.getElem?_eq_none (by simpa using hl)] at h1
      cases h1
  · rw [List.getElem?_set_ne hj] at h1 h3
    exact .inl ⟨j, k', d', n, h1, h2, h3⟩
theorem set_get {α : Type} {l : List α} {i j : Nat} {x y : α} (h : (l.set i x)[j]? = some y) : (i = j ∧ x = y ∧ i < l.length) ∨ (i ≠ j ∧ l[j]? = some y) := by
  by_cases hj : i = j
  · subst hj
    by_cases hl : i < l.length
    · rw [List.getElem?_set_self hl] at h
      cases h
      exact .inl ⟨rfl, rfl, hl⟩
    · rw [List.getElem?_eq_none (by simpa using hl)] at h
      cases h
  · rw [List.getElem?_set_ne hj] at h
    exact .inr ⟨hj, h⟩
/-- a shared datum is stored -/
theorem GoodC.setSh (g : GoodC P H0 B C τ σ ρ H st) {i : Nat} {d : D} {v : V} (n : notLent ρ i = true) (r : Rep P H (fun a => (B a ∨ OwnA σ ρ a) ∨ C a) d v) : GoodC P H0 B C τ (σ.set i (some v)) (ρ.set i (some (.sh, d))) H st := by
  have oA : ∀ a, OwnA (σ.set i (some v)) (ρ.set i (some (.sh, d))) a → OwnA σ ρ a := fun a z => (ownA_set z).elim id fun q => absurd rfl q.1
  have oB : ∀ a ls, OwnB (σ.set i (some v)) (ρ.set i (some (.sh, d))) ls a → OwnB σ ρ ls a := fun a ls z => (ownB_set z).elim id fun q => absurd rfl q.1
  have sub : ∀ a, ((B a ∨ OwnA (σ.set i (some v)) (ρ.set i (some (.sh, d))) a) ∨ C a) → ((B a ∨ OwnA σ ρ a) ∨ C a) := fun a z => z.imp (fun z => z.imp id (oA a)) id
  refine ⟨g.bra, g.dom0, g.row, g.ext, g.new, fun j x h => ?_, fun j k x h hk => ?_, fun j l k k' x y a h1 h2 h3 h4 h5 h6 => ?_, fun t m => (g.tmp t m).less fun a z => z.imp (fun z => z.imp id (oB a _)) id, fun t m j hj => ?_, by simpa using g.len⟩
  · rcases set_get h with ⟨rfl, e, hl⟩ | ⟨ne, h⟩
    · cases e
      exact ⟨v, List.getElem?_set_self (Nat.lt_of_lt_of_le hl g.len), r.less sub⟩
    · obtain ⟨w, a, b⟩ := g.sh j x h
      exact ⟨w, by rw [List.getElem?_set_ne ne]; exact a, b.less sub⟩
  · rcases set_get h with ⟨rfl, e, hl⟩ | ⟨ne, h⟩
    · cases e
      exact absurd rfl hk
    · obtain ⟨a, q, q1, q2, q3⟩ := g.own j k x h hk
      exact ⟨a, by rw [List.getElem?_set_ne ne]; exact q, q1, q2, q3.less sub⟩
  · rcases set_get h1 with ⟨rfl, e, hl⟩ | ⟨ne, h1⟩
    · cases e
      exact absurd rfl h2
    · rcases set_get h3 with ⟨rfl, e, hl⟩ | ⟨ne', h3⟩
      · cases e
        exact absurd rfl h4
      · rw [List.getElem?_set_ne ne] at h5
        rw [List.getElem?_set_ne ne'] at h6
        exact g.dis j l k k' x y a h1 h2 h3 h4 h5 h6
  · obtain ⟨x, h⟩ := g.pin t m j hj
    have ne : i ≠ j := fun z => by subst z; exact notLent_of n h
    exact ⟨x, by rw [List.getElem?_set_ne ne]; exact h⟩
/-- a new list (or dict) is owned -/
theorem GoodC.setOwn (g : GoodC P H0 B C τ σ ρ H st) {i : Nat} {d : D} {p : Addr} (n : notLent ρ i = true) (hp : C p) (r : Top P H (fun a => (B a ∨ OwnA σ ρ a) ∨ C a) d p) :
    GoodC P H0 B (fun a => C a ∧ a ≠ p) τ (σ.set i (some (.ref p))) (ρ.set i (some (.own, d))) H st := by
  have oA : ∀ a, OwnA (σ.set i (some (.ref p))) (ρ.set i (some (.own, d))) a → OwnA σ ρ a ∨ a = p := fun a z => (ownA_set z).imp id fun q => by cases q.2; rfl
  have oB : ∀ a ls, OwnB (σ.set i (some (.ref p))) (ρ.set i (some (.own, d))) ls a → OwnB σ ρ ls a ∨ a = p := fun a ls z => (ownB_set z).imp id fun q => by cases q.2; rfl
  have sub : ∀ a, ((B a ∨ OwnA (σ.set i (some (.ref p))) (ρ.set i (some (.own, d))) a) ∨ (C a ∧ a ≠ p)) → ((B a ∨ OwnA σ ρ a) ∨ C a) := fun a z => by
    rcases z with (z | z) | z
    · exact .inl (.inl z)
    · rcases oA a z with z | z
      · exact .inl (.inr z)
      · rw [z]; exact .inr hp
    · exact .inr z.1
  refine ⟨g.bra, g.dom0, g.row, g.ext, fun c z => g.new c z.1, fun j x h => ?_, fun j k x h hk => ?_, fun j l k k' x y a h1 h2 h3 h4 h5 h6 => ?_, fun t m => (g.tmp t m).less fun a z => ?_, fun t m j hj => ?_, by simpa using g.len⟩
  · rcases set_get h with ⟨rfl, e, hl⟩ | ⟨ne, h⟩
    · cases e
    · obtain ⟨w, a, b⟩ := g.sh j x h
      exact ⟨w, by rw [List.getElem?_set_ne ne]; exact a, b.less sub⟩
  · rcases set_get h with ⟨rfl, e, hl⟩ | ⟨ne, h⟩
    · cases e
      exact ⟨p, List.getElem?_set_self (Nat.lt_of_lt_of_le hl g.len), g.new p hp, fun z => z.2 rfl, r.less sub⟩
    · obtain ⟨a, q, q1, q2, q3⟩ := g.own j k x h hk
      exact ⟨a, by rw [List.getElem?_set_ne ne]; exact q, q1, fun z => q2 z.1, q3.less sub⟩
  · have notp : ∀ (j : Nat) (k : Kd) (x : D), ρ[j]? = some (some (k, x)) → k ≠ .sh → σ[j]? = some (some (.ref p)) → False := fun j k x q1 q2 q3 => by
      obtain ⟨a', e, _, nC, _⟩ := g.own j k x q1 q2
      rw [q3] at e
      cases e
      exact nC hp
    rcases set_get h1 with ⟨rfl, e, hl⟩ | ⟨ne, h1⟩
    · rcases set_get h3 with ⟨rfl, e', hl'⟩ | ⟨ne', h3⟩
      · rfl
      · rw [List.getElem?_set_self (Nat.lt_of_lt_of_le hl g.len)] at h5
        cases h5
        rw [List.getElem?_set_ne ne'] at h6
        exact (notp _ _ _ h3 h4 h6).elim
    · rcases set_get h3 with ⟨rfl, e', hl'⟩ | ⟨ne', h3⟩
      · rw [List.getElem?_set_self (Nat.lt_of_lt_of_le hl' g.len)] at h6
        cases h6
        rw [List.getElem?_set_ne ne] at h5
        exact (notp _ _ _ h1 h2 h5).elim
      · rw [List.getElem?_set_ne ne] at h5
        rw [List.getElem?_set_ne ne'] at h6
        exact g.dis j l k k' x y a h1 h2 h3 h4 h5 h6
  · rcases z with (z | z) | z
    · exact .inl (.inl z)
    · rcases oB a _ z with z | z
      · exact .inl (.inr z)
      · rw [z]; exact .inr hp
    · exact .inr z.1
  · obtain ⟨x, h⟩ := g.pin t m j hj
    have ne : i ≠ j := fun z => by subst z; exact notLent_of n h
    exact ⟨x, by rw [List.getElem?_set_ne ne]; exact h⟩
/-- an owned thing is changed -/
theorem GoodC.mut (g : Good P H0 B τ σ ρ H st) {i : Nat} {d d' : D} {a : Addr} {o : HO} (h : ρ[i]? = some (some (.own, d))) (hs : σ[i]? = some (some (.ref a))) (r : Row P (upd H a o) st)
    (t : Top P (upd H a o) (fun a => (B a ∨ OwnA σ ρ a) ∨ noC a) d' a) : Good P H0 B τ σ (ρ.set i (some (.own, d'))) (upd H a o) st := by
  have hi : i < ρ.length := (List.getElem?_eq_some_iff.mp h).1
  obtain ⟨a', e, h1, h2, h3⟩ := g.own i .own d h (by decide)
  rw [hs] at e
  cases e
  obtain ⟨u, hu, mu⟩ := h3.there
  have x : Ext (fun b => b = a) H (upd H a o) := Ext.updMt hu mu
  have oA : ∀ b, OwnA σ (ρ.set i (some (.own, d'))) b ↔ OwnA σ ρ b := fun b => by
    constructor
    · rintro ⟨j, k, y, q1, q2, q3⟩
      rcases set_get q1 with ⟨rfl, e, hl⟩ | ⟨ne, q1⟩
      · exact ⟨i, .own, d, h, by decide, q3⟩
      · exact ⟨j, k, y, q1, q2, q3⟩
    · rintro ⟨j, k, y, q1, q2, q3⟩
      by_cases hj : i = j
      · subst hj
        exact ⟨i, .own, d', List.getElem?_set_self hi, by decide, q3⟩
      · exact ⟨j, k, y, by rw [List.getElem?_set_ne hj]; exact q1, q2, q3⟩
  have sub : ∀ b, ((B b ∨ OwnA σ (ρ.set i (some (.own, d'))) b) ∨ noC b) → ((B b ∨ OwnA σ ρ b) ∨ noC b) := fun b z => z.imp (fun z => z.imp id (oA b).mp) id
  have bana : ∀ b, (fun b => b = a) b → ((B b ∨ OwnA σ ρ b) ∨ noC b) := fun b z => by rw [z]; exact .inl (.inr ⟨i, .own, d, h, by decide, hs⟩)
  refine ⟨g.bra, g.dom0, r, g.ext.updNew h1, g.new, fun j y q => ?_, fun j k y q hk => ?_, fun j l k k' y z b q1 q2 q3 q4 q5 q6 => ?_, fun t' m => ?_, fun t' m j hj => ?_, by simpa using g.len⟩
  · rcases set_get q with ⟨rfl, e, hl⟩ | ⟨ne, q⟩
    · cases e
    · obtain ⟨w, b1, b2⟩ := g.sh j y q
      exact ⟨w, b1, (b2.ext x bana).less sub⟩
  · rcases set_get q with ⟨rfl, e, hl⟩ | ⟨ne, q⟩
    · cases e
      exact ⟨a, hs, h1, h2, t.less sub⟩
    · obtain ⟨b, q1, q2, q3, q4⟩ := g.own j k y q hk
      have nb : b ≠ a := fun z => by subst z; exact ne (g.dis i j .own k d y b h (by decide) q hk hs q1)
      exact ⟨b, q1, q2, q3, (q4.ext x bana nb).less sub⟩
  · have f : ∀ (j : Nat) (k : Kd) (y : D), (ρ.set i (some (.own, d')))[j]? = some (some (k, y)) → k ≠ .sh → ∃ k' y', ρ[j]? = some (some (k', y')) ∧ k' ≠ .sh := fun j k y q1 q2 => by
      rcases set_get q1 with ⟨rfl, e, hl⟩ | ⟨ne, q1⟩
      · exact ⟨.own, d, h, by decide⟩
      · exact ⟨k, y, q1, q2⟩
    obtain ⟨k1, y1, e1, e2⟩ := f j k y q1 q2
    obtain ⟨k2, y2, e3, e4⟩ := f l k' z q3 q4
    exact g.dis j l k1 k2 y1 y2 b e1 e2 e3 e4 q5 q6
  · have nl : i ∉ t'.2.2 := fun hm => by
      obtain ⟨y, q⟩ := g.pin t' m i hm
      rw [h] at q
      cases q
    have bt : ∀ b, (fun b => b = a) b → ((B b ∨ OwnB σ ρ t'.2.2 b) ∨ noC b) := fun b z => by rw [z]; exact .inl (.inr ⟨i, .own, d, nl, h, by decide, hs⟩)
    refine ((g.tmp t' m).ext x bt).less fun b z => z.imp (fun z => z.imp id fun z => ?_) id
    obtain ⟨j, k, y, n, q1, q2, q3⟩ := z
    rcases set_get q1 with ⟨rfl, e, hl⟩ | ⟨ne, q1⟩
    · exact ⟨i, .own, d, n, h, by decide, q3⟩
    · exact ⟨j, k, y, n, q1, q2, q3⟩
  · obtain ⟨y, q⟩ := g.pin t' m j hj
    have ne : i ≠ j := fun z => by subst z; rw [h] at q; cases q
    exact ⟨y, by rw [List.getElem?_set_ne ne]; exact q⟩
end
end Ev

namespace Ev
open PySem PySem.Spec PyProof.Rows L2

inductive Flo where
  | nx | rt (d : D) | bk | ct
abbrev SR := Res (Flo × SE)
abbrev SM := SE → DS → SR
def SPost (P : Par) (H0 : Hp) (B : Addr → Prop) (τ : List Tmp) (E : XK) (N : Ends) : SR → Prop
  | .ok (.nx, ρ') st' => ∀ σ' H', Good P H0 B τ σ' ρ' H' st' → N.nx σ' H'
  | .ok (.rt d, _) st' => ∀ v H', Ext (isRa P) H0 H' → Row P H' st' → Rep P H' B d v → N.rt v H'
  | .ok (.bk, ρ') st' => ∀ σ' H', Good P H0 B τ σ' ρ' H' st' → N.bk σ' H'
  | .ok (.ct, ρ') st' => ∀ σ' H', Good P H0 B τ σ' ρ' H' st' → N.ct σ' H'
  | .exc c fs st' => XPost P B H0 E c fs st'
  | .stuck => False
def tS (X : Cx) {Tb : Tbs} (ra : RA Tb) (E : XK) (n : SM) : TS := fun N σ H => ∃ H0 B τ ρ st, Good (pr X ra) H0 B τ σ ρ H st ∧ SPost (pr X ra) H0 B τ E N (n ρ st)
abbrev DSt (X : Cx) {Tb : Tbs} (ra : RA Tb) (E : XK) (s : Stmt) (n : SM) : Prop := PS X s (tS X ra E n)
abbrev DSs (X : Cx) {Tb : Tbs} (ra : RA Tb) (E : XK) (s : List Stmt) (n : SM) : Prop := PSs X s (tS X ra E n)

/-- a first part that is an expression -/
theorem SPost.ofE {α β : Type} {P : Par} {H0 H : Hp} {B B' : Addr → Prop} {τ : List Tmp} {E : XK} {N : Ends} {r : Res α} {k : α → DS → SR} {R : Hp → α → β → Prop} {T : β → Hp → Prop} (e : Ext (isRa P) H0 H) (hB : ∀ H fs dd, XRep P H B' fs dd → XRep P H B fs dd) (h : SPost P H0 B τ E N (r.bind k))
    (g : ∀ a st1 v H1, r = .ok a st1 → Ext (isRa P) H H1 → Row P H1 st1 → R H1 a v → SPost P H0 B τ E N (k a st1) → T v H1) : Post P B' H E R T r := by
  cases r with
  | ok a st1 => exact fun v H1 e1 w1 x => g a st1 v H1 rfl e1 w1 x h
  | exc c fs st1 => exact fun C dd H' m e' w x => h C dd H' m (e.trans e') w (hB _ _ _ x)
  | stuck => exact h
theorem xrep_less {P : Par} {H : Hp} {B B' : Addr → Prop} {fs : List (Str × D)} {dd : Option Addr} (s : ∀ a, B a → B' a) (h : XRep P H B' fs dd) : XRep P H B fs dd := by
  rcases h with h | ⟨dx, fl, h1, h2, h3, h4⟩
  · exact .inl h
  · exact .inr ⟨dx, fl, h1, h2, h3, h4.less s⟩

section
variable {X : Cx} {Tb : Tbs} {ra : RA Tb} {E : XK} {s : Stmt} {ss : List Stmt} {n n' : SM} {e : Expr} {m : EM} {tm : TM} {am : AM} {pos : Pos}
/-! ### blocks -/
def sNop : SM := fun ρ st => .ok (.nx, ρ) st
def sSeq (n n' : SM) : SM := fun ρ st => (n ρ st).bind fun r st1 => match r with
  | (.nx, ρ') => n' ρ' st1
  | r => .ok r st1
theorem dss_nil : DSs X ra E [] sNop := PSs.imp pss_nil fun N σ H ⟨H0, B, τ, ρ, st, g, q⟩ => q σ H g
theorem dss_cons (h1 : DSt X ra E s n) (h2 : DSs X ra E ss n') : DSs X ra E (s :: ss) (sSeq n n') := by
  refine PSs.imp (pss_cons h1 h2) fun N σ H ⟨H0, B, τ, ρ, st, g, q⟩ => ⟨H0, B, τ, ρ, st, g, ?_⟩
  unfold sSeq at q
  cases hr : n ρ st with
  | ok r st1 =>
    rw [hr] at q
    obtain ⟨f, ρ'⟩ := r
    cases f with
    | nx => exact fun σ' H' g' => ⟨H0, B, τ, ρ', st1, g', q⟩
    | rt d => exact q
    | bk => exact q
    | ct => exact q
  | exc c fs st1 => rw [hr] at q; exact q
  | stuck => rw [hr] at q; exact q
theorem dss_one (h1 : DSt X ra E s n) : DSs X ra E [s] n := pss_one h1
def sBk : SM := fun ρ st => .ok (.bk, ρ) st
def sCt : SM := fun ρ st => .ok (.ct, ρ) st
theorem ds_pass : DSt X ra E (.Pass pos) sNop := PS.imp ps_pass fun N σ H ⟨H0, B, τ, ρ, st, g, q⟩ => q σ H g
theorem ds_break : DSt X ra E (.Break pos) sBk := PS.imp ps_break fun N σ H ⟨H0, B, τ, ρ, st, g, q⟩ => q σ H g
theorem ds_continue : DSt X ra E (.Continue pos) sCt := PS.imp ps_continue fun N σ H ⟨H0, B, τ, ρ, st, g, q⟩ => q σ H g
def sStuck : SM := fun _ _ => .stuck
theorem ds_never : DSt X ra E s sStuck := PS.imp ps_never fun N σ H ⟨H0, B, τ, ρ, st, g, q⟩ => q.elim
/-! ### return, an expression alone, if -/
def sRet (m : EM) : SM := fun ρ st => (m (er ρ) st).bind fun d st1 => .ok (.rt d, ρ) st1
def sExpr (m : EM) : SM := fun ρ st => (m (er ρ) st).bind fun _ st1 => .ok (.nx, ρ) st1
def sIf (c : TM) (n n' : SM) : SM := fun ρ st => (c (er ρ) st).bind fun b st1 => if b = true then n ρ st1 else n' ρ st1
theorem ds_ret (h : DE X ra E e m) : DSt X ra E (.Return (some e) pos) (sRet m) :=
  PS.imp (ps_ret h) fun N σ H ⟨H0, B, τ, ρ, st, g, q⟩ => ⟨B, er ρ, st, g.pre, SPost.ofE g.ext (fun _ _ _ x => x) q fun d st1 v H1 _ e1 w1 r q1 => q1 v H1 (g.ext.trans e1) w1 r⟩
theorem ds_retN : DSt X ra E (.Return none pos) (sRet (cCon .non)) :=
  PS.imp ps_retN fun N σ H ⟨H0, B, τ, ρ, st, g, q⟩ => q .non H g.ext g.row rfl
theorem ds_expr (h : DE X ra E e m) (hs : swapsWith e none pos.line X.env = pure false := by rfl) : DSt X ra E (.Expr e pos) (sExpr m) :=
  PS.imp (ps_expr h hs) fun N σ H ⟨H0, B, τ, ρ, st, g, q⟩ => ⟨B, er ρ, st, g.pre, SPost.ofE g.ext (fun _ _ _ x => x) q fun d st1 v H1 _ e1 w1 r q1 => q1 σ H1 (g.step e1 w1)⟩
theorem ds_if {c : Expr} {p q : List Stmt} (hc : DT X ra E c tm) (hp : DSs X ra E p n) (hq : DSs X ra E q n') : DSt X ra E (.If c p q pos) (sIf tm n n') :=
  PS.imp (ps_if hc hp hq) fun N σ H ⟨H0, B, τ, ρ, st, g, q⟩ => ⟨B, er ρ, st, g.pre, SPost.ofE g.ext (fun _ _ _ x => x) q fun d st1 v H1 _ e1 w1 r q1 => by
    have r : v = d := r
    subst r
    cases v with
    | true => rw [if_pos rfl]; exact ⟨H0, B, τ, ρ, st1, g.step e1 w1, q1⟩
    | false => rw [if_neg Bool.false_ne_true]; exact ⟨H0, B, τ, ρ, st1, g.step e1 w1, q1⟩⟩
/-! ### stores -/
/-- x = e, nothing in it that may be changed -/
def sSet (i : Nat) (m : EM) : SM := fun ρ st => (m (er ρ) st).bind fun d st1 => if d.pure = true ∧ notLent ρ i = true then .ok (.nx, ρ.set i (some (.sh, d))) st1 else .stuck
/-- x = e, of what is shared alone -/
def sSetS (i : Nat) (m : EM) : SM := fun ρ st => (m (erS ρ) st).bind fun d st1 => if notLent ρ i = true then .ok (.nx, ρ.set i (some (.sh, d))) st1 else .stuck
/-- x = [..], a new list of its own -/
def sOwn (i : Nat) (f : AM) : SM := fun ρ st => (f (er ρ) st).bind fun xs st1 => if D.pures xs = true ∧ notLent ρ i = true then .ok (.nx, ρ.set i (some (.own, .lst xs))) st1 else .stuck
theorem tAsg_set {i : Nat} {N : Ends} {σ : L2.St} {H : Hp} (h : tS X ra E (sSet i m) N σ H) : tAsg (tD X ra E m) (gName i) N σ H := by
  obtain ⟨H0, B, τ, ρ, st, g, q⟩ := h
  refine ⟨B, er ρ, st, g.pre, SPost.ofE g.ext (fun _ _ _ x => x) q fun d st1 v H1 _ e1 w1 r q1 => ?_⟩
  by_cases hc : d.pure = true ∧ notLent ρ i = true
  · rw [if_pos hc] at q1
    exact q1 _ H1 ((g.step e1 w1).setSh hc.2 (Rep.any _ _ hc.1 r))
  · rw [if_neg hc] at q1
    exact q1.elim
theorem tAsg_setS {i : Nat} {N : Ends} {σ : L2.St} {H : Hp} (h : tS X ra E (sSetS i m) N σ H) : tAsg (tD X ra E m) (gName i) N σ H := by
  obtain ⟨H0, B, τ, ρ, st, g, q⟩ := h
  refine ⟨_, erS ρ, st, g.preS, SPost.ofE g.ext (fun _ _ _ x => xrep_less (fun a z => .inl z) x) q fun d st1 v H1 _ e1 w1 r q1 => ?_⟩
  by_cases hc : notLent ρ i = true
  · rw [if_pos hc] at q1
    exact q1 _ H1 ((g.step e1 w1).setSh hc (r.less fun a z => z.elim id fun z => z.elim))
  · rw [if_neg hc] at q1
    exact q1.elim
theorem tAsg_own {i : Nat} {N : Ends} {σ : L2.St} {H : Hp} (h : tS X ra E (sOwn i am) N σ H) : tAsg (tF X ra E am) (gName i) N σ H := by
  obtain ⟨H0, B, τ, ρ, st, g, q⟩ := h
  refine ⟨B, er ρ, st, g.pre, SPost.ofE g.ext (fun _ _ _ x => x) q fun d st1 v H1 _ e1 w1 r q1 => ?_⟩
  by_cases hc : D.pures d = true ∧ notLent ρ i = true
  · rw [if_pos hc] at q1
    obtain ⟨p, vs, rfl, hn, h1, h2⟩ := r
    have g1 := (g.more (C := fun a => a = p) (fun a z => by rw [z]; exact hn)).step e1 w1
    exact q1 _ H1 ((g1.setOwn (d := .lst d) (p := p) hc.2 rfl ⟨vs, h1, Reps.any _ _ hc.1 h2⟩).lessC fun a z => z.elim)
  · rw [if_neg hc] at q1
    exact q1.elim
theorem ds_set {i : Nat} {x : Str} {pos' : Pos} (hN : X.N.Nodup) (hi : X.N[i]? = some x) (hx : Loc X.env.scope x) (h : DE X ra E e m) (hs : swapsWith e (some (.Name x pos')) pos.line X.env = pure false := by rfl) (hf : X.fn x = true ∨ X.env.scope.names.lookup x = some .local := by first | exact .inl rfl | exact .inr rfl | assumption) : DSt X ra E (.Assign [.Name x pos'] e pos) (sSet i m) :=
  PS.imp (ps_set hN hi hx h hs hf) fun N σ H q => tAsg_set q
theorem ds_setS {i : Nat} {x : Str} {pos' : Pos} (hN : X.N.Nodup) (hi : X.N[i]? = some x) (hx : Loc X.env.scope x) (h : DE X ra E e m) (hs : swapsWith e (some (.Name x pos')) pos.line X.env = pure false := by rfl) (hf : X.fn x = true ∨ X.env.scope.names.lookup x = some .local := by first | exact .inl rfl | exact .inr rfl | assumption) : DSt X ra E (.Assign [.Name x pos'] e pos) (sSetS i m) :=
  PS.imp (ps_set hN hi hx h hs hf) fun N σ H q => tAsg_setS q
theorem ds_own {i : Nat} {x : Str} {pos' : Pos} (hN : X.N.Nodup) (hi : X.N[i]? = some x) (hx : Loc X.env.scope x) (h : DF X ra E e am) (hs : swapsWith e (some (.Name x pos')) pos.line X.env = pure false := by rfl) (hf : X.fn x = true ∨ X.env.scope.names.lookup x = some .local := by first | exact .inl rfl | exact .inr rfl | assumption) : DSt X ra E (.Assign [.Name x pos'] e pos) (sOwn i am) :=
  PS.imp (ps_set hN hi hx h hs hf) fun N σ H q => tAsg_own q
/-- y = [.. for ..]: the store within the comprehension's frame -/
theorem ds_asgF {i : Nat} (h : PS X s (tAsg (tF X ra E am) (gName i))) : DSt X ra E s (sOwn i am) := PS.imp h fun N σ H q => tAsg_own q
theorem tF_D {σ : L2.St} {H : Hp} {Q : VK} (h : tD X ra E (cLst am) σ H Q) : tF X ra E am σ H Q := by
  obtain ⟨B, ρ, st, p, q⟩ := h
  exact ⟨B, ρ, st, p, Post.seq q fun xs st1 v H1 _ e1 w1 ⟨a, vs, ev, hn, ha, r⟩ q1 => q1 v H1 Ext.refl w1 ⟨a, vs, ev, ha, p.notB hn, r⟩⟩
theorem ds_asgFD {i : Nat} (h : PS X s (tAsg (tF X ra E am) (gName i))) : DSt X ra E s (sSetS i (cLst am)) := PS.imp h fun N σ H q => tF_D (tAsg_setS q)
end
end Ev

namespace Ev
open PySem PySem.Spec PyProof.Rows L2

/-! ### expressions that may take from an owned list -/
abbrev GM := SE → DS → Res (D × SE)
abbrev GA := SE → DS → Res (List D × SE)
def GPost {α β : Type} (P : Par) (H0 : Hp) (B : Addr → Prop) (τ : List Tmp) (σ : L2.St) (E : XK) (R : Hp → (Addr → Prop) → α → β → Prop) (Q : β → Hp → Prop) : Res (α × SE) → Prop
  | .ok (d, ρ') st' => ∀ v H', Good P H0 B τ σ ρ' H' st' → R H' (fun a => B a ∨ OwnA σ ρ' a) d v → Q v H'
  | .exc c fs st' => XPost P B H0 E c fs st'
  | .stuck => False
def tG (X : Cx) {Tb : Tbs} (ra : RA Tb) (E : XK) (m : GM) : TE := fun σ H Q => ∃ H0 B τ ρ st, Good (pr X ra) H0 B τ σ ρ H st ∧ GPost (pr X ra) H0 B τ σ E (fun H' B d v => Rep (pr X ra) H' B d v) Q (m ρ st)
def tGA (X : Cx) {Tb : Tbs} (ra : RA Tb) (E : XK) (m : GA) : TA := fun σ H Q => ∃ H0 B τ ρ st, Good (pr X ra) H0 B τ σ ρ H st ∧ GPost (pr X ra) H0 B τ σ E (fun H' B d v => Reps (pr X ra) H' B d v) Q (m ρ st)
abbrev DG (X : Cx) {Tb : Tbs} (ra : RA Tb) (E : XK) (e : Expr) (m : GM) : Prop := PE X e (tG X ra E m)
theorem GPost.ofE {α β γ δ : Type} {P : Par} {H0 H : Hp} {B B' : Addr → Prop} {τ : List Tmp} {σ : L2.St} {E : XK} {R' : Hp → (Addr → Prop) → γ → δ → Prop} {Q : δ → Hp → Prop} {r : Res α} {k : α → DS → Res (γ × SE)} {R : Hp → α → β → Prop} {T : β → Hp → Prop} (e : Ext (isRa P) H0 H) (hB : ∀ H fs dd, XRep P H B' fs dd → XRep P H B fs dd) (h : GPost P H0 B τ σ E R' Q (r.bind k))
    (g : ∀ a st1 v H1, r = .ok a st1 → Ext (isRa P) H H1 → Row P H1 st1 → R H1 a v → GPost P H0 B τ σ E R' Q (k a st1) → T v H1) : Post P B' H E R T r := by
  cases r with
  | ok a st1 => exact fun v H1 e1 w1 x => g a st1 v H1 rfl e1 w1 x h
  | exc c fs st1 => exact fun C dd H' m e' w x => h C dd H' m (e.trans e') w (hB _ _ _ x)
  | stuck => exact h
theorem GPost.seq {α β γ δ : Type} {P : Par} {H0 : Hp} {B : Addr → Prop} {τ : List Tmp} {σ : L2.St} {E : XK} {R' : Hp → (Addr → Prop) → γ → δ → Prop} {R : Hp → (Addr → Prop) → α → β → Prop} {Q : δ → Hp → Prop} {r : Res (α × SE)} {k : α × SE → DS → Res (γ × SE)} {T : β → Hp → Prop} (h : GPost P H0 B τ σ E R' Q (r.bind k))
    (g : ∀ a ρ' st1 v H1, Good P H0 B τ σ ρ' H1 st1 → R H1 (fun a => B a ∨ OwnA σ ρ' a) a v → GPost P H0 B τ σ E R' Q (k (a, ρ') st1) → T v H1) : GPost P H0 B τ σ E R T r := by
  cases r with
  | ok a st1 => exact fun v H1 g1 x => g a.1 a.2 st1 v H1 g1 x h
  | exc c fs st1 => exact h
  | stuck => exact h
theorem SPost.ofG {α β : Type} {P : Par} {H0 : Hp} {B : Addr → Prop} {τ : List Tmp} {σ : L2.St} {E : XK} {N : Ends} {R : Hp → (Addr → Prop) → α → β → Prop} {r : Res (α × SE)} {k : α × SE → DS → SR} {T : β → Hp → Prop} (h : SPost P H0 B τ E N (r.bind k))
    (g : ∀ a ρ' st1 v H1, Good P H0 B τ σ ρ' H1 st1 → R H1 (fun a => B a ∨ OwnA σ ρ' a) a v → SPost P H0 B τ E N (k (a, ρ') st1) → T v H1) : GPost P H0 B τ σ E R T r := by
  cases r with
  | ok a st1 => exact fun v H1 g1 x => g a.1 a.2 st1 v H1 g1 x h
  | exc c fs st1 => exact h
  | stuck => exact h
section
variable {X : Cx} {Tb : Tbs} {ra : RA Tb} {E : XK} {s : Stmt} {ss : List Stmt} {n n' : SM} {e : Expr} {es : List Expr} {m : EM} {tm : TM} {am : AM} {gm : GM} {ga : GA} {pos : Pos}
theorem noC_imp {P : Par} {H : Hp} {B : Addr → Prop} {d : D} {v : V} (r : Rep P H (fun a => B a ∨ noC a) d v) : Rep P H B d v := r.less fun a z => .inl z
def gPure (m : EM) : GM := fun ρ st => (m (er ρ) st).bind fun d st1 => if d.pure = true then .ok (d, ρ) st1 else .stuck
def gSh (m : EM) : GM := fun ρ st => (m (erS ρ) st).bind fun d st1 => .ok (d, ρ) st1
theorem dg_pure (h : DE X ra E e m) : DG X ra E e (gPure m) :=
  PE.imp h fun σ H Q ⟨H0, B, τ, ρ, st, g, q⟩ => ⟨B, er ρ, st, g.pre, GPost.ofE g.ext (fun _ _ _ x => x) q fun d st1 v H1 _ e1 w1 r q1 => by
    split at q1
    · rename_i hc
      exact q1 v H1 (g.step e1 w1) (Rep.any _ _ hc r)
    · exact q1.elim⟩
theorem dg_sh (h : DE X ra E e m) : DG X ra E e (gSh m) :=
  PE.imp h fun σ H Q ⟨H0, B, τ, ρ, st, g, q⟩ => ⟨_, erS ρ, st, g.preS, GPost.ofE g.ext (fun _ _ _ x => xrep_less (fun a z => .inl z) x) q fun d st1 v H1 _ e1 w1 r q1 => q1 v H1 (g.step e1 w1) r⟩
/-- x.pop() -/
def gPop (i : Nat) : GM := fun ρ st => match ρ[i]? with
  | some (some (.own, .lst xs)) => match xs[xs.length - 1]? with
    | some d => .ok (d, ρ.set i (some (.own, .lst xs.dropLast))) st
    | none => .stuck
  | _ => .stuck
theorem top_lst {P : Par} {H : Hp} {B : Addr → Prop} {xs : List D} {a : Addr} (h : Top P H B (.lst xs) a) : ∃ vs, H a = some (.lst vs) ∧ Reps P H B xs vs := h
theorem reps_dropLast {P : Par} {H : Hp} {B : Addr → Prop} {ds : List D} {vs : List V} (r : Reps P H B ds vs) : Reps P H B ds.dropLast vs.dropLast := by
  rw [List.dropLast_eq_take, List.dropLast_eq_take, r.length]
  exact r.take _
/-- the heap behind a change of an owned list -/
theorem GoodC.mutL {P : Par} {H0 H : Hp} {B : Addr → Prop} {τ : List Tmp} {σ : L2.St} {ρ : SE} {st : DS} (g : Good P H0 B τ σ ρ H st) {i : Nat} {d : D} {xs : List D} {a : Addr} {vs : List V} (h : ρ[i]? = some (some (.own, d))) (hs : σ[i]? = some (some (.ref a)))
    (r : Reps P H (fun a => (B a ∨ OwnA σ ρ a) ∨ noC a) xs vs) : Good P H0 B τ σ (ρ.set i (some (.own, .lst xs))) (upd H a (.lst vs)) st := by
  obtain ⟨a', e, h1, h2, h3⟩ := g.own i .own d h (by decide)
  rw [hs] at e
  cases e
  obtain ⟨u, hu, mu⟩ := h3.there
  have x : Ext (fun b => b = a) H (upd H a (.lst vs)) := Ext.updMt hu mu
  have nr : a ≠ P.ra := fun z => g.notB h1 (by rw [z]; exact g.bra)
  exact g.mut (d' := .lst xs) h hs (g.row.upd nr (.inr ⟨u, hu, mu⟩)) ⟨vs, upd_same, r.ext x fun b z => by rw [z]; exact .inl (.inr ⟨i, .own, d, h, by decide, hs⟩)⟩
theorem ownA_same {σ : L2.St} {ρ : SE} {i : Nat} {d d' : D} {a : Addr} (h : ρ[i]? = some (some (.own, d))) : OwnA σ (ρ.set i (some (.own, d'))) a → OwnA σ ρ a := by
  rintro ⟨j, k, y, q1, q2, q3⟩
  rcases set_get q1 with ⟨rfl, e, hl⟩ | ⟨ne, q1⟩
  · exact ⟨i, .own, d, h, by decide, q3⟩
  · exact ⟨j, k, y, q1, q2, q3⟩
theorem dg_pop {o : Expr} {i : Nat} {apos : Pos} (ho : PE X o (tVar i)) (hbase : attributeBase o "pop" X.env (eval o X.env) = eval o X.env := by rfl) (hline : (apos.endLine == pos.line) = true := by rfl) : DG X ra E (.Call (.Attribute o "pop" apos) [] [] pos) (gPop i) := by
  refine PE.imp (pe_bm0 PySem.F.plainAttrs_list PySem.F.slot_list_pop PySem.F.type_list_pop mt_pop ho hbase hline) fun σ H Q ⟨H0, B, τ, ρ, st, g, q⟩ => ?_
  unfold gPop at q
  split at q
  · rename_i xs hx
    split at q
    · rename_i d hd
      obtain ⟨a, hs, h1, h2, h3⟩ := g.own i .own _ hx (by decide)
      obtain ⟨vs, e1, e2⟩ := top_lst h3
      obtain ⟨v, hv, rv⟩ := e2.get hd
      have u : Ext (fun b => b = a) H (upd H a (.lst vs.dropLast)) := Ext.updMt e1 trivial
      refine ⟨.ref a, hs, .inl ⟨rfl, vs, SqL.of e1⟩, a, vs, v, rfl, rfl, e1, by rw [e2.length]; exact hv, ?_⟩
      refine q v _ (g.mutL hx hs (reps_dropLast e2)) ?_
      exact (rv.ext u fun b z => by rw [z]; exact .inl (.inr ⟨i, .own, _, hx, by decide, hs⟩)).less fun b z => .inl (z.imp id (ownA_same hx))
    · exact q.elim
  · exact q.elim
/-- x.pop(e) -/
def popK (xs : List D) : D → Option (D × List D)
  | .int j => if -(2 ^ 63) ≤ j ∧ j < 2 ^ 63 then (seqIndex? j xs.length).bind fun k => xs[k]?.map fun d => (d, xs.eraseIdx k) else none
  | _ => none
def gPopAt (i : Nat) (m : EM) : GM := fun ρ st => match ρ[i]? with
  | some (some (.own, .lst xs)) => (m (er ρ) st).bind fun j st1 => (Res.of (popK xs j) st1).bind fun r st1 => .ok (r.1, ρ.set i (some (.own, .lst r.2))) st1
  | _ => .stuck
theorem reps_eraseIdx {P : Par} {H : Hp} {B : Addr → Prop} : ∀ {ds : List D} {vs : List V} (k : Nat), Reps P H B ds vs → Reps P H B (ds.eraseIdx k) (vs.eraseIdx k)
  | [], _, _, r => by rw [show _ = [] from r]; exact rfl
  | d :: ds, vs, 0, r => by
    obtain ⟨v, w, rfl, h1, h2⟩ := r
    exact h2
  | d :: ds, vs, k + 1, r => by
    obtain ⟨v, w, rfl, h1, h2⟩ := r
    exact ⟨v, w.eraseIdx k, rfl, h1, reps_eraseIdx k h2⟩
theorem dg_popAt {o : Expr} {i : Nat} {apos : Pos} (ho : PE X o (tVar i)) (he : DE X ra E e m) (hbase : attributeBase o "pop" X.env (eval o X.env) = eval o X.env := by rfl)
    (hfew : ((backTo pos (starEach [e] X.env)).all (fun x => !x.1) && (backToKw pos (keywordEach [] X.env)).all (fun x => x.1.isSome) && decide ([e].length + ([] : List Keyword).length + (if ([] : List Keyword).isEmpty then 0 else 1) < 30)) = true := by rfl)
    (hline : (apos.endLine == pos.line) = true := by rfl) (hs : starEach [e] X.env = (false, eval e X.env) :: starEach [] X.env := by rfl) (hplain : (backTo pos (starEach [] X.env)).any (·.1) = false := by rfl) : DG X ra E (.Call (.Attribute o "pop" apos) [e] [] pos) (gPopAt i m) := by
  refine PE.imp (pe_bm PySem.F.plainAttrs_list PySem.F.slot_list_pop PySem.F.type_list_pop mt_popAt ho (pa_cons he pa_nil hs) hbase hfew hline hs hplain) fun σ H Q ⟨H0, B, τ, ρ, st, g, q⟩ => ?_
  unfold gPopAt at q
  split at q
  · rename_i xs hx
    obtain ⟨a, hs, h1, h2, h3⟩ := g.own i .own _ hx (by decide)
    obtain ⟨vs, e1, e2⟩ := top_lst h3
    refine ⟨.ref a, hs, .inl ⟨rfl, vs, SqL.of e1⟩, B, er ρ, st, g.pre, GPost.ofE g.ext (fun _ _ _ x => x) q fun j st1 v H1 hq0 x1 w1 r q1 => ?_⟩
    clear hq0
    have g1 := g.step x1 w1
    cases hp : popK xs j with
    | none => rw [hp] at q1; exact q1.elim
    | some r1 =>
      rw [hp] at q1
      unfold popK at hp
      split at hp
      · rename_i j
        split at hp
        · rename_i hj
          cases hk : seqIndex? j xs.length with
          | none => rw [hk] at hp; cases hp
          | some k =>
            rw [hk] at hp
            have hp : xs[k]?.map (fun d => (d, xs.eraseIdx k)) = some r1 := hp
            cases hd : xs[k]? with
            | none => rw [hd] at hp; cases hp
            | some d =>
              rw [hd] at hp
              cases hp
              obtain ⟨a', hs', h1', h2', h3'⟩ := g1.own i .own _ hx (by decide)
              rw [hs] at hs'
              cases hs'
              obtain ⟨vs', e1', e2'⟩ := top_lst h3'
              obtain ⟨w, hw, rw'⟩ := e2'.get hd
              have u : Ext (fun b => b = a) H1 (upd H1 a (.lst (vs'.eraseIdx k))) := Ext.updMt e1' trivial
              refine ⟨a, vs', j, k, w, rfl, by rw [show v = V.int j from r], e1', hj.1, hj.2, by rw [e2'.length]; exact hk, hw, ?_⟩
              refine q1 w _ (g1.mutL hx hs (reps_eraseIdx k e2')) ?_
              exact (rw'.ext u fun b z => by rw [z]; exact .inl (.inr ⟨i, .own, _, hx, by decide, hs⟩)).less fun b z => .inl (z.imp id (ownA_same hx))
        · cases hp
      · cases hp
  · exact q.elim
/-! ### calls, of such arguments -/
def gaNil : GA := fun ρ st => .ok ([], ρ) st
def gaCons (g : GM) (r : GA) : GA := fun ρ st => (g ρ st).bind fun q st1 => (r q.2 st1).bind fun w st2 => if q.1.pure = true then .ok (q.1 :: w.1, w.2) st2 else .stuck
theorem dga_nil : PA X [] (tGA X ra E gaNil) := PA.imp pa_nil fun σ H Q ⟨H0, B, τ, ρ, st, g, q⟩ => q [] H g Reps.nil
theorem pure_keep {P : Par} {H H' : Hp} {B B' C : Addr → Prop} {d : D} {v : V} (hp : d.pure = true) (r : Rep P H B d v) (h : ∀ a o, H a = some o → ¬ Mt o → Nt o → H' a = some o) : Rep P H' B' d v := by
  refine Rep.any d v hp (B := fun _ => True) (Rep.mono (B := fun _ => True) (fun a o q n t => h a o q (fun m => n ⟨trivial, m⟩) t) (fun a z => z) d v (Rep.any d v hp r))
end
end Ev

namespace Ev
open PySem PySem.Spec PyProof.Rows L2

section
variable {X : Cx} {Tb : Tbs} {ra : RA Tb} {E : XK} {s : Stmt} {ss : List Stmt} {n n' : SM} {e : Expr} {es : List Expr} {m : EM} {tm : TM} {am : AM} {gm : GM} {ga : GA} {pos : Pos}
/-! ### calls and statements of such expressions -/
def sExprG (g : GM) : SM := fun ρ st => (g ρ st).bind fun q st1 => .ok (.nx, q.2) st1
def sSetG (i : Nat) (g : GM) : SM := fun ρ st => (g ρ st).bind fun q st1 => if notLent q.2 i = true then .ok (.nx, q.2.set i (some (.sh, q.1))) st1 else .stuck
theorem ds_exprG (h : DG X ra E e gm) (hs : swapsWith e none pos.line X.env = pure false := by rfl) : DSt X ra E (.Expr e pos) (sExprG gm) :=
  PS.imp (ps_expr h hs) fun N σ H ⟨H0, B, τ, ρ, st, g, q⟩ => ⟨H0, B, τ, ρ, st, g, SPost.ofG q fun d ρ' st1 v H1 g1 _ q1 => q1 σ H1 g1⟩
theorem tAsg_G {i : Nat} {N : Ends} {σ : L2.St} {H : Hp} (h : tS X ra E (sSetG i gm) N σ H) : tAsg (tG X ra E gm) (gName i) N σ H := by
  obtain ⟨H0, B, τ, ρ, st, g, q⟩ := h
  refine ⟨H0, B, τ, ρ, st, g, SPost.ofG q fun d ρ' st1 v H1 g1 r q1 => ?_⟩
  by_cases hc : notLent ρ' i = true
  · rw [if_pos hc] at q1
    exact q1 _ H1 (g1.setSh hc (r.less fun a z => z.elim id fun z => z.elim))
  · rw [if_neg hc] at q1
    exact q1.elim
theorem ds_setG {i : Nat} {x : Str} {pos' : Pos} (hN : X.N.Nodup) (hi : X.N[i]? = some x) (hx : Loc X.env.scope x) (h : DG X ra E e gm) (hs : swapsWith e (some (.Name x pos')) pos.line X.env = pure false := by rfl) (hf : X.fn x = true ∨ X.env.scope.names.lookup x = some .local := by first | exact .inl rfl | exact .inr rfl | assumption) : DSt X ra E (.Assign [.Name x pos'] e pos) (sSetG i gm) :=
  PS.imp (ps_set hN hi hx h hs hf) fun N σ H q => tAsg_G q
/-! ### x.append(e) -/
def gAppend (i : Nat) (g : GM) : GM := fun ρ st => match ρ[i]? with
  | some (some (.own, .lst _)) => (g ρ st).bind fun q st1 => match q.2[i]? with
    | some (some (.own, .lst xs)) => if xs.length < SZ then .ok (.non, q.2.set i (some (.own, .lst (xs ++ [q.1])))) st1 else .stuck
    | _ => .stuck
  | _ => .stuck
theorem dg_append {o : Expr} {i : Nat} {apos : Pos} (ho : PE X o (tVar i)) (he : DG X ra E e gm) (hbase : attributeBase o "append" X.env (eval o X.env) = eval o X.env := by rfl)
    (hfew : ((backTo pos (starEach [e] X.env)).all (fun x => !x.1) && (backToKw pos (keywordEach [] X.env)).all (fun x => x.1.isSome) && decide ([e].length + ([] : List Keyword).length + (if ([] : List Keyword).isEmpty then 0 else 1) < 30)) = true := by rfl)
    (hline : (apos.endLine == pos.line) = true := by rfl) (hs : starEach [e] X.env = (false, eval e X.env) :: starEach [] X.env := by rfl) (hplain : (backTo pos (starEach [] X.env)).any (·.1) = false := by rfl) : DG X ra E (.Call (.Attribute o "append" apos) [e] [] pos) (gAppend i gm) := by
  refine PE.imp (pe_bm PySem.F.plainAttrs_list PySem.F.slot_list_append PySem.F.type_list_append mt_append ho (pa_cons he pa_nil hs) hbase hfew hline hs hplain) fun σ H Q ⟨H0, B, τ, ρ, st, g, q⟩ => ?_
  unfold gAppend at q
  split at q
  · rename_i xs0 hx0
    obtain ⟨a, hs, h1, h2, h3⟩ := g.own i .own _ hx0 (by decide)
    obtain ⟨vs0, e1, e2⟩ := top_lst h3
    refine ⟨.ref a, hs, .inl ⟨rfl, vs0, SqL.of e1⟩, H0, B, τ, ρ, st, g, GPost.seq q fun d ρ' st1 v H1 g1 r q1 => ?_⟩
    have q1 : GPost (pr X ra) H0 B τ σ E (fun H' B d v => Rep (pr X ra) H' B d v) Q (match ρ'[i]? with
      | some (some (.own, .lst xs)) => if xs.length < SZ then .ok (.non, ρ'.set i (some (.own, .lst (xs ++ [d])))) st1 else .stuck
      | _ => .stuck) := q1
    split at q1
    · rename_i xs hx
      obtain ⟨a', hs', h1', h2', h3'⟩ := g1.own i .own _ hx (by decide)
      rw [hs] at hs'
      cases hs'
      obtain ⟨vs, f1, f2⟩ := top_lst h3'
      by_cases hz : xs.length < SZ
      · rw [if_pos hz] at q1
        refine ⟨a, vs, v, rfl, rfl, f1, by rw [f2.length, sz_eq]; exact hz, ?_⟩
        refine q1 .non _ (g1.mutL hx hs (f2.append (Reps.cons (r.less fun b z => z.elim id fun z => z.elim) Reps.nil))) rfl
      · rw [if_neg hz] at q1
        exact q1.elim
    · exact q1.elim
  · exact q.elim
/-! ### x[i] = e -/
/-- which item -/
def ixD (n : Nat) : D → Option Nat
  | .int k => ixN n k
  | _ => none
theorem ixD_some {n k : Nat} {j : D} (h : ixD n j = some k) : ∃ z, j = .int z ∧ ixN n z = some k := by
  cases j with
  | int z => exact ⟨z, rfl, h⟩
  | _ => cases h
theorem reps_set {P : Par} {H : Hp} {B : Addr → Prop} {ds : List D} {vs : List V} {d : D} {v : V} (r : Reps P H B ds vs) (h : Rep P H B d v) (k : Nat) : Reps P H B (ds.set k d) (vs.set k v) := r.set k h
def sSub (i : Nat) (mi : EM) (gm : GM) : SM := fun ρ st => (gm ρ st).bind fun q st1 => match q.2[i]? with
  | some (some (.own, .lst xs)) => (mi (er q.2) st1).bind fun j st2 => match ixD xs.length j with
    | some k => .ok (.nx, q.2.set i (some (.own, .lst (xs.set k q.1)))) st2
    | none => .stuck
  | _ => .stuck
theorem ds_sub {o j : Expr} {i : Nat} {mi : EM} {p2 : Pos} (ho : PE X o (tVar i)) (hj : DE X ra E j mi) (he : DG X ra E e gm)
    (ha : ∀ v, assign (.Subscript o j p2) X.env v = (do
      let ov ← holding [v] (eval o X.env)
      let iv ← holding [v, ov] (eval j X.env)
      standAt p2
      holding [v, ov, iv] (setItem ov iv v)
      release [v, ov, iv] []) := by intro _; rfl)
    (hs : swapsWithSole [.Subscript o j p2] e pos.line X.env = pure false := by rfl) (hw : swappedStores [.Subscript o j p2] e X.env = pure none := by rfl)
    (h1 : (assignEach [.Subscript o j p2] X.env).map (·.2) = [assign (.Subscript o j p2) X.env] := by rfl) : DSt X ra E (.Assign [.Subscript o j p2] e pos) (sSub i mi gm) := by
  refine PS.imp (ps_asg he (pg_sub ho hj set_list ha) hs hw h1) fun N σ H ⟨H0, B, τ, ρ, st, g, q⟩ => ?_
  refine ⟨H0, B, τ, ρ, st, g, SPost.ofG q fun d ρ' st1 v H1 g1 r q1 => ?_⟩
  have q1 : SPost (pr X ra) H0 B τ E N (match ρ'[i]? with
    | some (some (.own, .lst xs)) => (mi (er ρ') st1).bind fun j st2 => match ixD xs.length j with
      | some k => .ok (.nx, ρ'.set i (some (.own, .lst (xs.set k d)))) st2
      | none => .stuck
    | _ => .stuck) := q1
  split at q1
  · rename_i xs hx
    obtain ⟨a, hs, z1, z2, z3⟩ := g1.own i .own _ hx (by decide)
    refine ⟨.ref a, hs, B, er ρ', st1, g1.pre, SPost.ofE g1.ext (fun _ _ _ x => x) q1 fun jd st2 jv H2 hq e2 w2 rj q2 => ?_⟩
    clear hq
    split at q2
    · rename_i k hk
      obtain ⟨z, rfl, hz⟩ := ixD_some hk
      have g2 := g1.step e2 w2
      obtain ⟨a', hs', z1', z2', z3'⟩ := g2.own i .own _ hx (by decide)
      rw [hs] at hs'
      cases hs'
      obtain ⟨vs, f1, f2⟩ := top_lst z3'
      refine ⟨a, vs, z, k, rfl, rep_int rj, f1, by rw [f2.length]; exact hz, ?_⟩
      refine q2 σ _ (g2.mutL hx hs (f2.set k ?_))
      exact (r.ext e2 fun b z => by rw [z]; exact .inl g1.bra).less fun b z => z.elim id fun z => z.elim
    · exact q2.elim
  · exact q1.elim
/-! ### what is no more changed is shared -/
def frz : List Nat → SE → SE
  | [], ρ => ρ
  | i :: r, ρ => match ρ[i]? with
    | some (some (.own, d)) => frz r (ρ.set i (some (.sh, d)))
    | _ => frz r ρ
theorem GoodC.frz1 {P : Par} {H0 H : Hp} {B C : Addr → Prop} {τ : List Tmp} {σ : L2.St} {ρ : SE} {st : DS} (g : GoodC P H0 B C τ σ ρ H st) {i : Nat} {d : D} (h : ρ[i]? = some (some (.own, d))) : GoodC P H0 B C τ σ (ρ.set i (some (.sh, d))) H st := by
  obtain ⟨a, hs, n0, nC, tp⟩ := g.own i .own d h (by decide)
  have oA : ∀ b, OwnA σ (ρ.set i (some (.sh, d))) b → OwnA σ ρ b ∧ b ≠ a := fun b ⟨j, k, x, q1, q2, q3⟩ => by
    rcases set_get q1 with ⟨rfl, e, hl⟩ | ⟨ne, q1⟩
    · cases e; exact absurd rfl q2
    · exact ⟨⟨j, k, x, q1, q2, q3⟩, fun z => ne (by subst z; exact g.dis i j .own k d x b h (by decide) q1 q2 hs q3)⟩
  have oB : ∀ b ls, OwnB σ (ρ.set i (some (.sh, d))) ls b → OwnB σ ρ ls b := fun b ls ⟨j, k, x, n, q1, q2, q3⟩ => by
    rcases set_get q1 with ⟨rfl, e, hl⟩ | ⟨ne, q1⟩
    · cases e; exact absurd rfl q2
    · exact ⟨j, k, x, n, q1, q2, q3⟩
  have sub : ∀ b, ((B b ∨ OwnA σ (ρ.set i (some (.sh, d))) b) ∨ C b) → ((B b ∨ OwnA σ ρ b) ∨ C b) := fun b z => z.imp (fun z => z.imp id fun z => (oA b z).1) id
  refine ⟨g.bra, g.dom0, g.row, g.ext, g.new, fun j x q => ?_, fun j k x q hk => ?_, fun j l k k' x y b q1 q2 q3 q4 q5 q6 => ?_, fun t m => (g.tmp t m).less fun b z => z.imp (fun z => z.imp id (oB b _)) id, fun t m j hj => ?_, by simpa using g.len⟩
  · rcases set_get q with ⟨rfl, e, hl⟩ | ⟨ne, q⟩
    · cases e
      refine ⟨_, hs, (tp.less sub).rep fun z => ?_⟩
      rcases z with (z | z) | z
      · exact g.notB n0 z
      · exact (oA a z).2 rfl
      · exact nC z
    · obtain ⟨v, b1, b2⟩ := g.sh j x q
      exact ⟨v, b1, b2.less sub⟩
  · rcases set_get q with ⟨rfl, e, hl⟩ | ⟨ne, q⟩
    · cases e; exact absurd rfl hk
    · obtain ⟨b, z1, z2, z3, z4⟩ := g.own j k x q hk
      exact ⟨b, z1, z2, z3, z4.less sub⟩
  · rcases set_get q1 with ⟨rfl, e, hl⟩ | ⟨ne, q1⟩
    · cases e; exact absurd rfl q2
    · rcases set_get q3 with ⟨rfl, e, hl⟩ | ⟨ne', q3⟩
      · cases e; exact absurd rfl q4
      · exact g.dis j l k k' x y b q1 q2 q3 q4 q5 q6
  · obtain ⟨x, q⟩ := g.pin t m j hj
    have ne : i ≠ j := fun z => by subst z; rw [h] at q; cases q
    exact ⟨x, by rw [List.getElem?_set_ne ne]; exact q⟩
theorem GoodC.frz {P : Par} {H0 H : Hp} {B C : Addr → Prop} {τ : List Tmp} {σ : L2.St} {st : DS} : ∀ (ls : List Nat) {ρ : SE}, GoodC P H0 B C τ σ ρ H st → GoodC P H0 B C τ σ (frz ls ρ) H st
  | [], _, g => g
  | i :: r, ρ, g => by
    unfold Ev.frz
    split
    · rename_i d h
      exact GoodC.frz r (g.frz1 h)
    · exact GoodC.frz r g
def sFrz (ls : List Nat) (n : SM) : SM := fun ρ st => n (frz ls ρ) st
theorem ds_frz (ls : List Nat) (h : DSt X ra E s n) : DSt X ra E s (sFrz ls n) := PS.imp h fun N σ H ⟨H0, B, τ, ρ, st, g, q⟩ => ⟨H0, B, τ, frz ls ρ, st, g.frz ls, q⟩
end
end Ev

namespace Ev
open PySem PySem.Spec PyProof.Rows L2

/-! ### for -/
def kOwn (ρ : SE) (i : Nat) : Bool := match ρ[i]? with
  | some (some (.own, _)) => true
  | _ => false
def kLent (ρ : SE) (i : Nat) : Bool := match ρ[i]? with
  | some (some (.lent, _)) => true
  | _ => false
def setK (k : Kd) : List Nat → SE → SE
  | [], ρ => ρ
  | i :: r, ρ => match ρ[i]? with
    | some (some (.own, d)) => setK k r (ρ.set i (some (k, d)))
    | some (some (.lent, d)) => setK k r (ρ.set i (some (k, d)))
    | _ => setK k r ρ
def lents (ρ : SE) : List Nat := (List.range ρ.length).filter (kLent ρ)
theorem kLent_of {ρ : SE} {i : Nat} (h : kLent ρ i = true) : ∃ d, ρ[i]? = some (some (.lent, d)) := by
  unfold kLent at h
  split at h
  · rename_i d e
    exact ⟨d, e⟩
  · cases h
theorem kOwn_of {ρ : SE} {i : Nat} (h : kOwn ρ i = true) : ∃ d, ρ[i]? = some (some (.own, d)) := by
  unfold kOwn at h
  split at h
  · rename_i d e
    exact ⟨d, e⟩
  · cases h
theorem mem_lents {ρ : SE} {i : Nat} : i ∈ lents ρ ↔ ∃ d, ρ[i]? = some (some (.lent, d)) := by
  unfold lents
  rw [List.mem_filter, List.mem_range]
  constructor
  · exact fun h => kLent_of h.2
  · rintro ⟨d, h⟩
    exact ⟨(List.getElem?_eq_some_iff.mp h).1, by unfold kLent; rw [h]⟩
section
variable {P : Par} {H0 H : Hp} {B C : Addr → Prop} {τ : List Tmp} {σ : L2.St} {ρ : SE} {st : DS}
/-- between owned and lent -/
theorem GoodC.kind (g : GoodC P H0 B C τ σ ρ H st) {i : Nat} {k k' : Kd} {d : D} (h : ρ[i]? = some (some (k, d))) (hk : k ≠ .sh) (hk' : k' ≠ .sh) (hp : k' = .own → ∀ t ∈ τ, i ∉ t.2.2) : GoodC P H0 B C τ σ (ρ.set i (some (k', d))) H st := by
  have hl : i < ρ.length := (List.getElem?_eq_some_iff.mp h).1
  have bk : ∀ {j : Nat} {l : Kd} {x : D}, (ρ.set i (some (k', d)))[j]? = some (some (l, x)) → ∃ l', ρ[j]? = some (some (l', x)) ∧ (l' = .sh ↔ l = .sh) := fun {j l x} q => by
    rcases set_get q with ⟨rfl, e, hl⟩ | ⟨ne, q⟩
    · cases e
      exact ⟨k, h, iff_of_false hk hk'⟩
    · exact ⟨l, q, Iff.rfl⟩
  have oA : ∀ b, OwnA σ (ρ.set i (some (k', d))) b → OwnA σ ρ b := fun b ⟨j, l, x, q1, q2, q3⟩ => by
    obtain ⟨l', e1, e2⟩ := bk q1
    exact ⟨j, l', x, e1, fun z => q2 (e2.mp z), q3⟩
  have oB : ∀ b ls, OwnB σ (ρ.set i (some (k', d))) ls b → OwnB σ ρ ls b := fun b ls ⟨j, l, x, n, q1, q2, q3⟩ => by
    obtain ⟨l', e1, e2⟩ := bk q1
    exact ⟨j, l', x, n, e1, fun z => q2 (e2.mp z), q3⟩
  have sub : ∀ b, ((B b ∨ OwnA σ (ρ.set i (some (k', d))) b) ∨ C b) → ((B b ∨ OwnA σ ρ b) ∨ C b) := fun b z => z.imp (fun z => z.imp id (oA b)) id
  refine ⟨g.bra, g.dom0, g.row, g.ext, g.new, fun j x q => ?_, fun j l x q hl => ?_, fun j l k1 k2 x y b q1 q2 q3 q4 q5 q6 => ?_, fun t m => (g.tmp t m).less fun b z => z.imp (fun z => z.imp id (oB b _)) id, fun t m j hj => ?_, by simpa using g.len⟩
  · obtain ⟨l', e1, e2⟩ := bk q
    obtain ⟨v, b1, b2⟩ := g.sh j x (by rw [e2.mpr rfl] at e1; exact e1)
    exact ⟨v, b1, b2.less sub⟩
  · obtain ⟨l', e1, e2⟩ := bk q
    obtain ⟨b, z1, z2, z3, z4⟩ := g.own j l' x e1 fun z => hl (e2.mp z)
    exact ⟨b, z1, z2, z3, z4.less sub⟩
  · obtain ⟨l1, e1, e2⟩ := bk q1
    obtain ⟨l2, e3, e4⟩ := bk q3
    exact g.dis j l l1 l2 x y b e1 (fun z => q2 (e2.mp z)) e3 (fun z => q4 (e4.mp z)) q5 q6
  · obtain ⟨x, q⟩ := g.pin t m j hj
    by_cases hj' : i = j
    · subst hj'
      cases k' with
      | sh => exact absurd rfl hk'
      | own => exact absurd hj (hp rfl t m)
      | lent => exact ⟨d, List.getElem?_set_self hl⟩
    · exact ⟨x, by rw [List.getElem?_set_ne hj']; exact q⟩
theorem GoodC.kinds {k' : Kd} (hk' : k' ≠ .sh) : ∀ (ls : List Nat) {ρ : SE}, GoodC P H0 B C τ σ ρ H st → (k' = .own → ∀ t ∈ τ, ∀ i ∈ ls, i ∉ t.2.2) → GoodC P H0 B C τ σ (setK k' ls ρ) H st
  | [], _, g, _ => g
  | i :: r, ρ, g, hp => by
    unfold setK
    have hr : k' = .own → ∀ t ∈ τ, ∀ j ∈ r, j ∉ t.2.2 := fun e t m j hj => hp e t m j (List.mem_cons_of_mem _ hj)
    split
    · rename_i d h
      exact GoodC.kinds hk' r (g.kind h (by decide) hk' fun e t m => hp e t m i List.mem_cons_self) hr
    · rename_i d h
      exact GoodC.kinds hk' r (g.kind h (by decide) hk' fun e t m => hp e t m i List.mem_cons_self) hr
    · exact GoodC.kinds hk' r g hr
theorem GoodC.push (g : Good P H0 B τ σ ρ H st) {τ' : List (D × V)} (h : TRep P H (fun a => B a ∨ OwnB σ ρ (lents ρ) a) τ') : Good P H0 B (τ'.map (fun t => (t.1, t.2, lents ρ)) ++ τ) σ ρ H st := by
  refine ⟨g.bra, g.dom0, g.row, g.ext, g.new, g.sh, g.own, g.dis, fun t m => ?_, fun t m i hi => ?_, g.len⟩
  · rcases List.mem_append.mp m with m | m
    · obtain ⟨u, hu, rfl⟩ := List.mem_map.mp m
      exact (h u hu).less fun a z => z.elim id fun z => z.elim
    · exact g.tmp t m
  · rcases List.mem_append.mp m with m | m
    · obtain ⟨u, hu, rfl⟩ := List.mem_map.mp m
      exact mem_lents.mp hi
    · exact g.pin t m i hi
theorem GoodC.pop {τ' : List Tmp} (g : GoodC P H0 B C (τ' ++ τ) σ ρ H st) : GoodC P H0 B C τ σ ρ H st :=
  ⟨g.bra, g.dom0, g.row, g.ext, g.new, g.sh, g.own, g.dis, fun t m => g.tmp t (List.mem_append_right _ m), fun t m => g.pin t (List.mem_append_right _ m), g.len⟩
end
/-- the walk's own store of shared data -/
def bindSE : Tg → D → SE → Option SE
  | .nm i, d, ρ => if notLent ρ i = true then some (ρ.set i (some (.sh, d))) else none
  | .tp is, .tup ds, ρ => if ds.length = is.length ∧ is.all (notLent ρ) = true then some (setAll ρ (is.zip (ds.map fun d => (Kd.sh, d)))) else none
  | .tp _, _, _ => none
theorem notLent_set {ρ : SE} {i j : Nat} {d : D} (h : notLent ρ j = true) : notLent (ρ.set i (some (.sh, d))) j = true := by
  unfold notLent
  split
  · rename_i x e
    rcases set_get e with ⟨rfl, e1, hl⟩ | ⟨ne, e1⟩
    · cases e1
    · exact absurd e1 (notLent_of h)
  · rfl
theorem GoodC.sets {P : Par} {H0 H : Hp} {B : Addr → Prop} {τ : List Tmp} {st : DS} : ∀ (is : List Nat) (ds : List D) (vs : List V) {σ : L2.St} {ρ : SE}, Good P H0 B τ σ ρ H st → is.all (notLent ρ) = true → Reps P H (fun a => B a ∨ OwnA σ ρ a) ds vs →
    Good P H0 B τ (setAll σ (is.zip vs)) (setAll ρ (is.zip (ds.map fun d => (Kd.sh, d)))) H st
  | [], _, _, _, _, g, _, _ => g
  | _ :: _, [], _, _, _, g, _, r => by rw [show _ = [] from r]; exact g
  | i :: is, d :: ds, vs, σ, ρ, g, h, r => by
    obtain ⟨v, w, rfl, h1, h2⟩ := r
    rw [List.all_cons, Bool.and_eq_true] at h
    refine GoodC.sets is ds w (g.setSh h.1 (h1.less fun a z => z.elim id fun z => z.elim)) ?_ (h2.less fun a z => z.imp id fun z => (ownA_set z).elim id fun q => absurd rfl q.1)
    rw [List.all_eq_true] at h ⊢
    exact fun j hj => notLent_set (h.2 j hj)
section
variable {X : Cx} {Tb : Tbs} {ra : RA Tb} {E : XK} {s : Stmt} {ss : List Stmt} {n n' nb : SM} {e iter : Expr} {es : List Expr} {m : EM} {tm : TM} {am : AM} {gm : GM} {ga : GA} {pos p : Pos} {tg : Expr} {t : Tg}
def TgS (X : Cx) {Tb : Tbs} (ra : RA Tb) (tg : Expr) (t : Tg) : Prop :=
  ∃ g : TG, PG X tg g ∧ ∀ (H0 : Hp) (B : Addr → Prop) (τ : List Tmp) (σ : L2.St) (ρ ρ' : SE) (H : Hp) (st : DS) (d : D) (v : V) (Q : L2.St → Hp → Prop), Good (pr X ra) H0 B τ σ ρ H st → Rep (pr X ra) H (fun a => B a ∨ OwnA σ ρ a) d v → bindSE t d ρ = some ρ' →
    (∀ σ', Good (pr X ra) H0 B τ σ' ρ' H st → Q σ' H) → g v σ H Q
theorem tgs_nm {i : Nat} {x : Str} {pos : Pos} (h : PG X (.Name x pos) (gName i)) : TgS X ra (.Name x pos) (.nm i) := by
  refine ⟨_, h, fun H0 B τ σ ρ ρ' H st d v Q g r b q => ?_⟩
  have b : (if notLent ρ i = true then some (ρ.set i (some (.sh, d))) else none) = some ρ' := b
  split at b
  · rename_i hn
    cases b
    exact q _ (g.setSh hn (r.less fun a z => z.elim id fun z => z.elim))
  · cases b
theorem tgs_tp {es : List Expr} {is : List Nat} {k : Nat} {pos : Pos} (hc : X.calm = true) (h : NmsOk X es is) (hn : (assignEach es X.env).length = is.length := by rfl) (hst : (assignEach es X.env).findIdx? (·.1) = none := by rfl) : TgS X ra (.Tuple es k pos) (.tp is) := by
  refine ⟨_, pg_tup (n := is.length) hc h.pgs hn hst, fun H0 B τ σ ρ ρ' H st d v Q g r b q => ?_⟩
  cases d with
  | tup ds =>
    have b : (if ds.length = is.length ∧ is.all (notLent ρ) = true then some (setAll ρ (is.zip (ds.map fun d => (Kd.sh, d)))) else none) = some ρ' := b
    split at b
    · rename_i hl
      cases b
      obtain ⟨a, vs, rfl, s, rs⟩ := r
      exact ⟨a, vs, rfl, s, by rw [rs.length]; exact hl.1, gAll_of (by rw [rs.length]; exact hl.1) (q _ (GoodC.sets is ds vs g hl.2 rs))⟩
    · cases b
  | _ => cases b
/-- a, b = e -/
def sUnp (t : Tg) (g : GM) : SM := fun ρ st => (g ρ st).bind fun q st1 => match bindSE t q.1 q.2 with
  | some ρ' => .ok (.nx, ρ') st1
  | none => .stuck
theorem ds_unp (h : DG X ra E e gm) (ht : TgS X ra tg t) (hs : swapsWithSole [tg] e pos.line X.env = pure false := by rfl) (hw : swappedStores [tg] e X.env = pure none := by rfl)
    (h1 : (assignEach [tg] X.env).map (·.2) = [assign tg X.env] := by rfl) : DSt X ra E (.Assign [tg] e pos) (sUnp t gm) := by
  obtain ⟨g0, hg, hk⟩ := ht
  refine PS.imp (ps_asg h hg hs hw h1) fun N σ H ⟨H0, B, τ, ρ, st, g, q⟩ => ⟨H0, B, τ, ρ, st, g, SPost.ofG q fun d ρ' st1 v H1 g1 r q1 => ?_⟩
  have q1 : SPost (pr X ra) H0 B τ E N (match bindSE t d ρ' with
    | some ρ' => .ok (.nx, ρ') st1
    | none => .stuck) := q1
  split at q1
  · rename_i ρ2 hb
    exact hk H0 B τ σ ρ' ρ2 H1 st1 d v N.nx g1 r hb fun σ' g' => q1 σ' H1 g'
  · exact q1.elim
theorem pures_get : ∀ {ds : List D} {i : Nat} (h : D.pures ds = true) (hl : i < ds.length), (ds[i]).pure = true
  | [], _, _, hl => by simp at hl
  | d :: ds, 0, h, _ => by
    have h : d.pure = true ∧ D.pures ds = true := by simpa [D.pures] using h
    exact h.1
  | d :: ds, i + 1, h, hl => by
    have h : d.pure = true ∧ D.pures ds = true := by simpa [D.pures] using h
    exact pures_get (ds := ds) (i := i) h.2 (Nat.lt_of_succ_lt_succ hl)
/-! the loop itself -/
def forL (t : Tg) (nb : SM) : List D → SM
  | [], ρ, st => .ok (.nx, ρ) st
  | d :: ds, ρ, st => match bindSE t d ρ with
    | none => .stuck
    | some ρ' => (nb ρ' st).bind fun r st1 => match r with
      | (.nx, ρ2) => forL t nb ds ρ2 st1
      | (.ct, ρ2) => forL t nb ds ρ2 st1
      | (.bk, ρ2) => .ok (.nx, ρ2) st1
      | (.rt d, ρ2) => .ok (.rt d, ρ2) st1
def fin (ls : List Nat) : Flo × SE → DS → SR := fun r st => .ok (r.1, setK .own ls r.2) st
def sFor (ls : List Nat) (it : AM) (t : Tg) (nb : SM) : SM := fun ρ st => (it (erL (setK .lent (ls.filter (kOwn ρ)) ρ)) st).bind fun ds st1 =>
  if D.pures ds = true ∨ lents (setK .lent (ls.filter (kOwn ρ)) ρ) = [] then (forL t nb ds (setK .lent (ls.filter (kOwn ρ)) ρ) st1).bind (fin (ls.filter (kOwn ρ))) else .stuck
def sFor0 (it : AM) (t : Tg) (nb : SM) : SM := fun ρ st => (it (er ρ) st).bind fun ds st1 => if D.pures ds = true then forL t nb ds ρ st1 else .stuck
def tI0 (X : Cx) {Tb : Tbs} (ra : RA Tb) (E : XK) (m : AM) : TI := fun σ H R => ∃ B ρ st, Pre (pr X ra) B σ ρ H st ∧ Post (pr X ra) B H E (fun H' ds (J : It) => Walks (pr X ra) J [] ds) R (m ρ st)
abbrev DI0 (X : Cx) {Tb : Tbs} (ra : RA Tb) (E : XK) (tg iter : Expr) (m : AM) : Prop := PI X tg iter (tI0 X ra E m)
theorem for_core {N : Ends} {H0 : Hp} {B : Addr → Prop} {τ : List Tmp} {J : It} {ls nw : List Nat} {ds : List D} {τ0 : List (D × V)} {g0 : TG} (w : Walks (pr X ra) J τ0 ds) (hb : PSs X ss (tS X ra E nb))
    (hk : ∀ (H0 : Hp) (B : Addr → Prop) (τ : List Tmp) (σ : L2.St) (ρ ρ' : SE) (H : Hp) (st : DS) (d : D) (v : V) (Q : L2.St → Hp → Prop), Good (pr X ra) H0 B τ σ ρ H st → Rep (pr X ra) H (fun a => B a ∨ OwnA σ ρ a) d v → bindSE t d ρ = some ρ' → (∀ σ', Good (pr X ra) H0 B τ σ' ρ' H st → Q σ' H) → g0 v σ H Q)
    (hp : D.pures ds = true ∨ ls = []) (hnw : ∀ t ∈ τ, ∀ i ∈ nw, i ∉ t.2.2) {σ : L2.St} {H : Hp} {ρ : SE} {st : DS} (g : Good (pr X ra) H0 B (τ0.map (fun t => (t.1, t.2, ls)) ++ τ) σ ρ H st) (q : SPost (pr X ra) H0 B τ E N ((forL t nb ds ρ st).bind (fin nw))) :
    ∃ W : Nat → Nat → L2.St → Hp → Prop, (∃ m, W 0 m σ H) ∧ ∀ i m σ H, W i m σ H →
      (J.stop i H ∧ N.nx σ H) ∨ (J.go i H ∧ ∃ Nx : L2.St → Hp → Prop, (∀ σ' H', Nx σ' H' → ∃ m', m' < m ∧ W (i + 1) m' σ' H') ∧ ∀ x H', J.yld i H x H' → g0 x σ H' fun σ2 H2 => tS X ra E nb { N with nx := Nx, ct := Nx, bk := N.nx } σ2 H2) := by
  have out : ∀ {σ' : L2.St} {ρ' : SE} {H' : Hp} {st' : DS}, Good (pr X ra) H0 B (τ0.map (fun t => (t.1, t.2, ls)) ++ τ) σ' ρ' H' st' → Good (pr X ra) H0 B τ σ' (setK .own nw ρ') H' st' := fun g' => GoodC.kinds (by decide) nw g'.pop fun _ => hnw
  have tr : ∀ {σ' : L2.St} {ρ' : SE} {H' : Hp} {st' : DS}, Good (pr X ra) H0 B (τ0.map (fun t => (t.1, t.2, ls)) ++ τ) σ' ρ' H' st' → TRep (pr X ra) H' (fun a => B a ∨ OwnB σ' ρ' ls a) τ0 := fun g' t m => (g'.tmp _ (List.mem_append_left _ (List.mem_map.mpr ⟨t, m, rfl⟩))).less fun a z => .inl z
  refine ⟨fun i m σ H => m = ds.length - i ∧ i ≤ ds.length ∧ ∃ ρ st, Good (pr X ra) H0 B (τ0.map (fun t => (t.1, t.2, ls)) ++ τ) σ ρ H st ∧ SPost (pr X ra) H0 B τ E N ((forL t nb (ds.drop i) ρ st).bind (fin nw)), ⟨ds.length, by simp, Nat.zero_le _, ρ, st, g, by simpa using q⟩, ?_⟩
  rintro i m σ H ⟨rfl, hi, ρ, st, g, q⟩
  by_cases hlt : i < ds.length
  · refine .inr ⟨w.goes i H _ hlt (tr g), fun σ H => ∃ ρ st, Good (pr X ra) H0 B (τ0.map (fun t => (t.1, t.2, ls)) ++ τ) σ ρ H st ∧ SPost (pr X ra) H0 B τ E N ((forL t nb (ds.drop (i + 1)) ρ st).bind (fin nw)), fun σ' H' p' => ⟨ds.length - (i + 1), by omega, rfl, hlt, p'⟩, fun x H' y => ?_⟩
    obtain ⟨hh, rx⟩ := w.yields i H x H' _ _ (tr g) (List.getElem?_eq_getElem hlt) y
    have g' : Good (pr X ra) H0 B (τ0.map (fun t => (t.1, t.2, ls)) ++ τ) σ ρ H' st := by
      rcases hh with rfl | ⟨p, vs, hp, rfl⟩ | ⟨p, vs, q, ws, hp, hq, rfl⟩
      · exact g
      · exact g.step (Ext.new hp) (g.row.new hp)
      · exact (g.step (Ext.new hp) (g.row.new hp)).step (Ext.new hq) ((g.row.new hp).new hq)
    have rd : Rep (pr X ra) H' (fun a => B a ∨ OwnA σ ρ a) ds[i] x := by
      rcases hp with hp | hp
      · exact Rep.any _ _ (pures_get hp hlt) rx
      · subst hp
        exact rx.less fun a z => z.imp id fun ⟨j, k, d, q1, q2, q3⟩ => ⟨j, k, d, (fun z => nomatch z), q1, q2, q3⟩
    rw [List.drop_eq_getElem_cons hlt] at q
    unfold forL at q
    split at q
    · exact q.elim
    · rename_i ρ2 hb
      refine hk H0 B _ σ ρ ρ2 H' st ds[i] x _ g' rd hb fun σ2 g2 => ⟨H0, B, _, ρ2, st, g2, ?_⟩
      cases hr : nb ρ2 st with
      | ok r st1 =>
        rw [hr] at q
        obtain ⟨f, ρ3⟩ := r
        cases f with
        | nx => exact fun σ' H' g3 => ⟨ρ3, st1, g3, q⟩
        | ct => exact fun σ' H' g3 => ⟨ρ3, st1, g3, q⟩
        | bk => exact fun σ' H' g3 => q σ' H' (out g3)
        | rt d => exact q
      | exc c fs st1 => rw [hr] at q; exact q
      | stuck => rw [hr] at q; exact q
  · have e : i = ds.length := by omega
    subst e
    refine .inl ⟨w.stops H _ (tr g), ?_⟩
    rw [List.drop_length] at q
    exact q σ H (out g)
theorem forL_fin {t : Tg} {nb : SM} {r : SR} : r.bind (fin []) = r := by
  cases r with
  | ok a st => obtain ⟨f, ρ⟩ := a; rfl
  | exc c fs st => rfl
  | stuck => rfl
theorem ds_for0 (hp : PassesOwn (model X.prog X.w) X.A X.env X.xe) (hc : X.calm = true) (hi : DI0 X ra E tg iter am) (ht : TgS X ra tg t) (hb : DSs X ra E ss nb) (hs : ∀ x, foldedSetIterable iter X.env x = pure x := by intro _; rfl) : DSt X ra E (.For tg iter ss [] pos) (sFor0 am t nb) := by
  obtain ⟨g0, hg, hk⟩ := ht
  refine PS.imp (ps_for hp hc hi hg hb hs) fun N σ H ⟨H0, B, τ, ρ, st, g, q⟩ => ⟨B, er ρ, st, g.pre, SPost.ofE g.ext (fun _ _ _ x => x) q fun ds st1 J H1 _ e1 w1 w q1 => ?_⟩
  by_cases hc : D.pures ds = true
  · rw [if_pos hc, ← forL_fin (t := t) (nb := nb) (r := forL t nb ds ρ st1)] at q1
    exact for_core (ls := []) (nw := []) (τ := τ) w hb hk (.inl hc) (fun _ _ _ h => nomatch h) (g.step e1 w1) q1
  · rw [if_neg hc] at q1
    exact q1.elim
theorem ds_for (ls : List Nat) (hp : PassesOwn (model X.prog X.w) X.A X.env X.xe) (hc : X.calm = true) (hi : DI X ra E tg iter am) (ht : TgS X ra tg t) (hb : DSs X ra E ss nb) (hs : ∀ x, foldedSetIterable iter X.env x = pure x := by intro _; rfl) : DSt X ra E (.For tg iter ss [] pos) (sFor ls am t nb) := by
  obtain ⟨g0, hg, hk⟩ := ht
  refine PS.imp (ps_for hp hc hi hg hb hs) fun N σ H ⟨H0, B, τ, ρ, st, g, q⟩ => ?_
  have g1 : Good (pr X ra) H0 B τ σ (setK .lent (ls.filter (kOwn ρ)) ρ) H st := g.kinds (by decide) _ fun e => by cases e
  have pre := g1.preL (ls := lents (setK .lent (ls.filter (kOwn ρ)) ρ)) (fun i d h => mem_lents.mpr ⟨d, h⟩) (fun i h => mem_lents.mp h)
  refine ⟨_, _, st, pre, SPost.ofE g.ext (fun _ _ _ x => xrep_less (fun a z => .inl z) x) q fun ds st1 J H1 _ e1 w1 ⟨τ0, w, tr⟩ q1 => ?_⟩
  by_cases hc : D.pures ds = true ∨ lents (setK .lent (ls.filter (kOwn ρ)) ρ) = []
  · rw [if_pos hc] at q1
    refine for_core (τ := τ) w hb hk hc (fun t m i hi hm => ?_) ((g1.step e1 w1).push tr) q1
    obtain ⟨d, h⟩ := g.pin t m i hm
    obtain ⟨d', h'⟩ := kOwn_of (List.mem_filter.mp hi).2
    rw [h] at h'
    cases h'
  · rw [if_neg hc] at q1
    exact q1.elim
/-! ### while -/
def whlL (c : TM) (nb : SM) : Nat → SM
  | 0, _, _ => .stuck
  | k + 1, ρ, st => (c (er ρ) st).bind fun b st1 => if b = true then (nb ρ st1).bind fun r st2 => match r with
      | (.nx, ρ2) => whlL c nb k ρ2 st2
      | (.ct, ρ2) => whlL c nb k ρ2 st2
      | (.bk, ρ2) => .ok (.nx, ρ2) st2
      | (.rt d, ρ2) => .ok (.rt d, ρ2) st2
    else .ok (.nx, ρ) st1
theorem ds_while (fuel : Nat) {c : Expr} (hp : PassesOwn (model X.prog X.w) X.A X.env X.xe) (hc : DT X ra E c tm) (hb : DSs X ra E ss nb) : DSt X ra E (.While c ss [] pos) (whlL tm nb fuel) := by
  refine PS.imp (ps_while hp hc hb) fun N σ H ⟨H0, B, τ, ρ, st, g, q⟩ => ?_
  refine ⟨fun m σ H => ∃ ρ st, Good (pr X ra) H0 B τ σ ρ H st ∧ SPost (pr X ra) H0 B τ E N (whlL tm nb m ρ st), ⟨fuel, ρ, st, g, q⟩, ?_⟩
  rintro m σ H ⟨ρ, st, g, q⟩
  cases m with
  | zero => exact q.elim
  | succ m =>
    refine ⟨B, er ρ, st, g.pre, SPost.ofE g.ext (fun _ _ _ x => x) q fun b st1 v H1 _ e1 w1 r q1 => ?_⟩
    have r : v = b := r
    subst r
    cases v with
    | true =>
      rw [if_pos rfl] at q1 ⊢
      refine ⟨fun σ H => ∃ ρ st, Good (pr X ra) H0 B τ σ ρ H st ∧ SPost (pr X ra) H0 B τ E N (whlL tm nb m ρ st), fun σ' H' p => ⟨m, Nat.lt_succ_self _, p⟩, H0, B, τ, ρ, st1, g.step e1 w1, ?_⟩
      cases hr : nb ρ st1 with
      | ok r st2 =>
        rw [hr] at q1
        obtain ⟨f, ρ3⟩ := r
        cases f with
        | nx => exact fun σ' H' g3 => ⟨ρ3, st2, g3, q1⟩
        | ct => exact fun σ' H' g3 => ⟨ρ3, st2, g3, q1⟩
        | bk => exact fun σ' H' g3 => q1 σ' H' g3
        | rt d => exact q1
      | exc c fs st2 => rw [hr] at q1; exact q1
      | stuck => rw [hr] at q1; exact q1
    | false =>
      rw [if_neg Bool.false_ne_true] at q1 ⊢
      exact q1 σ H1 (g.step e1 w1)
end
end Ev

namespace Ev
open PySem PySem.Spec PyProof.Rows L2

/-! ### a def -/
def startE (nN : Nat) (ds : List D) : SE := (ds.map fun d => some (.sh, d)) ++ List.replicate (nN - ds.length) none
def runB (nN : Nat) (nb : SM) : FM := fun ds st => (nb (startE nN ds) st).bind fun r st1 => match r.1 with
  | .nx => .ok .non st1
  | .rt d => .ok d st1
  | _ => .stuck
structure FnD (P : Program) (w : World) (K : PySem.W.Frag) (mg : Str → Option Value) (base : Heap) (Tb : Tbs) (k : Nat) (x : Str) (n : Nat) (F : FM) : Prop where
  ex : ∃ (f : Addr) (fd : FuncData) (ps : List Str), FnOk P w K mg base (L2.CX P w) k f fd ps (spF K mg w Tb n F) ∧ mg x = some (.ref f) ∧ PySem.W.keepIn K (.ref f) = true ∧ Binds K fd ps []
section
variable {P : Program} {w : World} {K : PySem.W.Frag} {mg : Str → Option Value} {base : Heap}
theorem FnD.mono {Tb : Tbs} {j k n : Nat} {x : Str} {F : FM} (h : FnD P w K mg base Tb j x n F) (l : j ≤ k) : FnD P w K mg base Tb k x n F := by
  obtain ⟨f, fd, ps, h1, h2⟩ := h.ex
  exact ⟨f, fd, ps, h1.mono l, h2⟩
/-- how a def of the top stands -/
structure DefAt (K : PySem.W.Frag) (mg : Str → Option Value) (x : Str) (st : Stmt) : Prop where
  ex : ∃ (f : Addr) (fd : FuncData), Fun K x x st f fd ∧ mg x = some (.ref f)
theorem start_get {n : Nat} {ds : List D} {i : Nat} {k : Kd} {d : D} (h : (startE n ds)[i]? = some (some (k, d))) : k = .sh ∧ ds[i]? = some d := by
  unfold startE at h
  by_cases hi : i < ds.length
  · rw [List.getElem?_append_left (by simpa using hi), List.getElem?_map] at h
    cases e : ds[i]? with
    | none => rw [e] at h; cases h
    | some x => rw [e] at h; cases h; exact ⟨rfl, rfl⟩
  · rw [List.getElem?_append_right (by simpa using hi), List.getElem?_replicate] at h
    split at h
    · cases h
    · cases h
theorem fnD_of {Tb : Tbs} {x : Str} {st : Stmt} {N ps : List Str} {k : Nat} {nb : SM} (A0 : DefAt K mg x st) (S : FnScope N ps (defScope st))
    (hb : ∀ (kV doc pm : Value) (an : Option Addr) (cdv ct : Value) (us : List Value), us.length = ps.length → bindArgs (PySem.W.fnOf x x (defArgs st) (defBody st) (defScope st) .none kV doc pm an cdv ct) ⟨us, []⟩ = pure (ps.zip us))
    (hN : ps.length ≤ N.length)
    (hbody : ∀ (f : Addr) (cdv : Value) (A : Around) (outer : List Env) (s : Shared) (H : Hp) (E : XK) (ra : RA Tb), Room k (A.deeper (envOfC x (defScope st) s.heap.objs.size f cdv)) →
      DSs (cxOf (L2.CX P w) P w K mg base N x (defScope st) f cdv A outer s H E) ra E (defBody st) nb) : FnD P w K mg base Tb (k + 1) x ps.length (runB N.length nb) := by
  obtain ⟨f, fd, F, hm⟩ := A0.ex
  refine ⟨f, fd, ps, F.okX S (fun vs H Q E h => h.1) (fun cdv A outer s H vs Q E hr h => ?_), hm, F.kp, F.binds hb⟩
  obtain ⟨hl, ra, B, st0, ds, b1, b2, b3, b4, q⟩ := h
  refine ⟨_, hbody f cdv A outer s H E ra hr, H, B, [], startE N.length ds, st0, ?_, ?_⟩
  · have hl2 : ds.length = ps.length := by rw [← b4.length]; exact hl
    refine ⟨b1, b2, b3, Ext.refl, fun c z => z.elim, fun i d h => ?_, fun i k d h hk => absurd (start_get h).1 hk, fun i j k k' d d' a h hk => absurd (start_get h).1 hk, fun t m => absurd m (by simp), fun t m => absurd m (by simp), ?_⟩
    · obtain ⟨_, h⟩ := start_get h
      obtain ⟨v, hv, r⟩ := b4.get h
      refine ⟨v, ?_, r.less fun a z => ?_⟩
      · have hi : i < vs.length := (List.getElem?_eq_some_iff.mp hv).1
        unfold L2.start
        rw [List.getElem?_append_left (by simpa using hi), List.getElem?_map, hv]
        rfl
      · rcases z with (z | ⟨j, k, d', z1, z2, z3⟩) | z
        · exact z
        · exact absurd (start_get z1).1 z2
        · exact z.elim
    · unfold startE L2.start
      rw [List.length_append, List.length_append, List.length_map, List.length_map, List.length_replicate, List.length_replicate, b4.length]
      exact Nat.le_refl _
  · unfold runB at q
    cases hr : nb (startE N.length ds) st0 with
    | ok r st1 =>
      rw [hr] at q
      obtain ⟨fl, ρ⟩ := r
      cases fl with
      | nx => exact fun σ' H' g => q .non H' g.ext g.row rfl
      | rt d => exact fun v H' e r1 r2 => q v H' e r1 r2
      | bk => exact q.elim
      | ct => exact q.elim
    | exc c fs st1 =>
      rw [hr] at q
      exact q
    | stuck =>
      rw [hr] at q
      exact q.elim
end
end Ev

namespace Ev
open PySem PySem.Spec PyProof.Rows L2

section
variable {P : Par} {H0 H H' : Hp} {B C : Addr → Prop} {τ : List Tmp} {σ : L2.St} {ρ : SE} {st st' : DS}
theorem GoodC.moreP (g : GoodC P H0 B C τ σ ρ H st) {p : Addr} (h : H p = none) : GoodC P H0 B (fun a => a = p ∨ C a) τ σ ρ H st := by
  have hp : ∀ a, (fun a => a = p) a → H a = none := fun a z => by rw [z]; exact h
  have sub : ∀ {Z : Addr → Prop} a, (Z a ∨ (a = p ∨ C a)) → ((Z a ∨ C a) ∨ a = p) := fun a z => by
    rcases z with z | z | z
    · exact .inl (.inl z)
    · exact .inr z
    · exact .inl (.inr z)
  refine ⟨g.bra, g.dom0, g.row, g.ext, fun c z => ?_, fun i d q => ?_, fun i k d q hk => ?_, g.dis, fun t m => (Rep.freshC hp _ _ (g.tmp t m)).less sub, g.pin, g.len⟩
  · rcases z with z | z
    · rw [z]; exact g.ext.fresh h
    · exact g.new c z
  · obtain ⟨v, a, b⟩ := g.sh i d q
    exact ⟨v, a, (Rep.freshC hp _ _ b).less sub⟩
  · obtain ⟨a, q1, h1, h2, h3⟩ := g.own i k d q hk
    have nC : ¬ (a = p ∨ C a) := fun z => z.elim (fun z => by
      obtain ⟨o, e, _⟩ := h3.there
      rw [z, h] at e
      cases e) h2
    refine ⟨a, q1, h1, nC, ?_⟩
    cases d with
    | lst xs =>
      obtain ⟨vs, e1, e2⟩ := h3
      exact ⟨vs, e1, (Reps.freshC hp _ _ e2).less sub⟩
    | dic ks ws =>
      obtain ⟨o, vs, e1, dd, e2, e3⟩ := h3
      exact ⟨o, vs, e1, dd, (Reps.freshC hp _ _ e2).less sub, (Reps.freshC hp _ _ e3).less sub⟩
    | _ => exact h3.elim
theorem GoodC.preSC (g : GoodC P H0 B C τ σ ρ H st) (hC : ∀ a, C a → H a ≠ none) : Pre P (fun a => (B a ∨ OwnA σ ρ a) ∨ C a) σ (erS ρ) H st := by
  refine ⟨.inl (.inl g.bra), fun b z => ?_, g.row, fun i d h => g.sh i d (erS_get h), by rw [erS_length]; exact g.len⟩
  rcases z with (z | z) | z
  · exact g.ext.dom b (g.dom0 b z)
  · obtain ⟨_, _, o, e, _⟩ := g.ownH z
    rw [e]
    exact fun z => nomatch z
  · exact hC b z
/-! ### a, b, c = x, y, z -/
def XR (P : Par) (H : Hp) (Z : Addr → Prop) : List (Kd × D) → List V → List Addr → Prop
  | [], vs, cs => vs = [] ∧ cs = []
  | (.own, d) :: r, vs, cs => ∃ p vs' cs', vs = .ref p :: vs' ∧ cs = p :: cs' ∧ Top P H Z d p ∧ XR P H Z r vs' cs'
  | (_, d) :: r, vs, cs => ∃ v vs', vs = v :: vs' ∧ Rep P H Z d v ∧ XR P H Z r vs' cs
theorem XR.ext {Z X : Addr → Prop} (e : Ext X H H') (s : ∀ a, X a → Z a) (hx : ∀ p, X p → H0 p ≠ none) : ∀ {l : List (Kd × D)} {vs : List V} {cs : List Addr}, XR P H Z l vs cs → (∀ c ∈ cs, H0 c = none) → XR P H' Z l vs cs
  | [], _, _, h, _ => h
  | (.own, d) :: r, _, _, ⟨p, vs', cs', e1, e2, t, h⟩, n => ⟨p, vs', cs', e1, e2, t.ext e s (fun z => hx p z (n p (by rw [e2]; exact List.mem_cons_self))), h.ext e s hx fun c hc => n c (by rw [e2]; exact List.mem_cons_of_mem _ hc)⟩
  | (.sh, d) :: r, _, _, ⟨v, vs', e1, t, h⟩, n => ⟨v, vs', e1, t.ext e s, h.ext e s hx n⟩
  | (.lent, d) :: r, _, _, ⟨v, vs', e1, t, h⟩, n => ⟨v, vs', e1, t.ext e s, h.ext e s hx n⟩
theorem XR.less {Z Z' : Addr → Prop} (s : ∀ a, Z' a → Z a) : ∀ {l : List (Kd × D)} {vs : List V} {cs : List Addr}, XR P H Z l vs cs → XR P H Z' l vs cs
  | [], _, _, h => h
  | (.own, d) :: r, _, _, ⟨p, vs', cs', e1, e2, t, h⟩ => ⟨p, vs', cs', e1, e2, t.less s, h.less s⟩
  | (.sh, d) :: r, _, _, ⟨v, vs', e1, t, h⟩ => ⟨v, vs', e1, t.less s, h.less s⟩
  | (.lent, d) :: r, _, _, ⟨v, vs', e1, t, h⟩ => ⟨v, vs', e1, t.less s, h.less s⟩
theorem XR.length {Z : Addr → Prop} : ∀ {l : List (Kd × D)} {vs : List V} {cs : List Addr}, XR P H Z l vs cs → vs.length = l.length
  | [], _, _, h => by rw [h.1]; rfl
  | (.own, d) :: r, _, _, ⟨p, vs', cs', e1, e2, t, h⟩ => by rw [e1, List.length_cons, List.length_cons, h.length]
  | (.sh, d) :: r, _, _, ⟨v, vs', e1, t, h⟩ => by rw [e1, List.length_cons, List.length_cons, h.length]
  | (.lent, d) :: r, _, _, ⟨v, vs', e1, t, h⟩ => by rw [e1, List.length_cons, List.length_cons, h.length]
/-- no lent one -/
def okK : List (Kd × D) → Bool
  | [] => true
  | (.lent, _) :: _ => false
  | _ :: r => okK r
theorem notLent_setO {ρ : SE} {i j : Nat} {k : Kd} {d : D} (hk : k ≠ .lent) (h : notLent ρ j = true) : notLent (ρ.set i (some (k, d))) j = true := by
  unfold notLent
  split
  · rename_i x e
    rcases set_get e with ⟨rfl, e1, hl⟩ | ⟨ne, e1⟩
    · cases e1; exact absurd rfl hk
    · exact absurd e1 (notLent_of h)
  · rfl
theorem GoodC.stores {Z : Addr → Prop} : ∀ (is : List Nat) (l : List (Kd × D)) (vs : List V) (cs : List Addr) {σ : L2.St} {ρ : SE}, is.length = l.length → okK l = true → GoodC P H0 B (fun a => a ∈ cs) τ σ ρ H st → cs.Nodup → (∀ a, ((B a ∨ OwnA σ ρ a) ∨ a ∈ cs) → Z a) → XR P H Z l vs cs → is.all (notLent ρ) = true →
    Good P H0 B τ (setAll σ (is.zip vs)) (setAll ρ (is.zip l)) H st
  | [], [], _, _, _, _, _, _, g, _, _, x, _ => by rw [x.1]; exact g.lessC fun a z => z.elim
  | [], _ :: _, _, _, _, _, hl, _, _, _, _, _, _ => by simp at hl
  | _ :: _, [], _, _, _, _, hl, _, _, _, _, _, _ => by simp at hl
  | i :: is, (.lent, d) :: l, _, _, _, _, _, ok, _, _, _, _, _ => by cases ok
  | i :: is, (.sh, d) :: l, _, cs, σ, ρ, hl, ok, g, nd, hz, ⟨v, vs', e1, t, h⟩, hn => by
    subst e1
    rw [List.all_cons, Bool.and_eq_true] at hn
    have oA : ∀ a, OwnA (σ.set i (some v)) (ρ.set i (some (.sh, d))) a → OwnA σ ρ a := fun a z => (ownA_set z).elim id fun q => absurd rfl q.1
    refine GoodC.stores is l vs' cs (by simpa using hl) ok (g.setSh hn.1 (t.less fun a z => hz a z)) nd (fun a z => hz a (z.imp (fun z => z.imp id (oA a)) id)) h ?_
    rw [List.all_eq_true] at hn ⊢
    exact fun j hj => notLent_setO (by decide) (hn.2 j hj)
  | i :: is, (.own, d) :: l, _, _, σ, ρ, hl, ok, g, nd, hz, ⟨p, vs', cs', e1, e2, t, h⟩, hn => by
    subst e1 e2
    rw [List.all_cons, Bool.and_eq_true] at hn
    have oA : ∀ a, OwnA (σ.set i (some (.ref p))) (ρ.set i (some (.own, d))) a → OwnA σ ρ a ∨ a = p := fun a z => (ownA_set z).imp id fun q => by cases q.2; rfl
    rw [List.nodup_cons] at nd
    have g1 := (g.setOwn (d := d) (p := p) hn.1 List.mem_cons_self (t.less fun a z => hz a z)).lessC (C' := fun a => a ∈ cs') fun a z => ⟨List.mem_cons_of_mem _ z, fun q => nd.1 (by rw [← q]; exact z)⟩
    refine GoodC.stores is l vs' cs' (by simpa using hl) ok g1 nd.2 (fun a z => ?_) h ?_
    · rcases z with (z | z) | z
      · exact hz a (.inl (.inl z))
      · rcases oA a z with z | z
        · exact hz a (.inl (.inr z))
        · rw [z]; exact hz p (.inr List.mem_cons_self)
      · exact hz a (.inr (List.mem_cons_of_mem _ z))
    · rw [List.all_eq_true] at hn ⊢
      exact fun j hj => notLent_setO (by decide) (hn.2 j hj)
end
abbrev XM := SE → DS → Res (List (Kd × D))
def XPo (P : Par) (H0 : Hp) (B : Addr → Prop) (τ : List Tmp) (σ : L2.St) (ρ : SE) (H : Hp) (cs : List Addr) (E : XK) (Q : List V → Hp → Prop) : Res (List (Kd × D)) → Prop
  | .ok l st' => ∀ vs H' cs', GoodC P H0 B (fun a => a ∈ cs' ++ cs) τ σ ρ H' st' → Ext (isRa P) H H' → (∀ c ∈ cs' ++ cs, H' c ≠ none) → (cs' ++ cs).Nodup → (∀ c ∈ cs', H c = none) → XR P H' (fun a => (B a ∨ OwnA σ ρ a) ∨ a ∈ cs' ++ cs) l vs cs' → Q vs H'
  | .exc c fs st' => XPost P B H0 E c fs st'
  | .stuck => False
def tXA (X : Cx) {Tb : Tbs} (ra : RA Tb) (E : XK) (m : XM) : TA := fun σ H Q => ∃ H0 B τ ρ st cs, GoodC (pr X ra) H0 B (fun a => a ∈ cs) τ σ ρ H st ∧ (∀ c ∈ cs, H c ≠ none) ∧ cs.Nodup ∧ XPo (pr X ra) H0 B τ σ ρ H cs E Q (m ρ st)
abbrev DX (X : Cx) {Tb : Tbs} (ra : RA Tb) (E : XK) (es : List Expr) (m : XM) : Prop := PA X es (tXA X ra E m)
section
variable {X : Cx} {Tb : Tbs} {ra : RA Tb} {E : XK} {s : Stmt} {ss : List Stmt} {n n' nb : SM} {e iter : Expr} {es : List Expr} {m : EM} {tm : TM} {am : AM} {gm : GM} {ga : GA} {xm : XM} {pos p : Pos} {tg : Expr} {t : Tg}
def xNil : XM := fun _ st => .ok [] st
def xP (m : EM) (r : XM) : XM := fun ρ st => (m (er ρ) st).bind fun d st1 => if d.pure = true then (r ρ st1).bind fun l st2 => .ok ((.sh, d) :: l) st2 else .stuck
def xS (m : EM) (r : XM) : XM := fun ρ st => (m (erS ρ) st).bind fun d st1 => (r ρ st1).bind fun l st2 => .ok ((.sh, d) :: l) st2
def xO (f : AM) (r : XM) : XM := fun ρ st => (f (er ρ) st).bind fun xs st1 => if D.pures xs = true then (r ρ st1).bind fun l st2 => .ok ((.own, .lst xs) :: l) st2 else .stuck
theorem XPo.ofE {α β : Type} {P : Par} {H0 H : Hp} {B B' : Addr → Prop} {τ : List Tmp} {σ : L2.St} {ρ : SE} {cs : List Addr} {E : XK} {Q : List V → Hp → Prop} {r : Res α} {k : α → DS → Res (List (Kd × D))} {R : Hp → α → β → Prop} {T : β → Hp → Prop} (e : Ext (isRa P) H0 H) (hB : ∀ H fs dd, XRep P H B' fs dd → XRep P H B fs dd) (h : XPo P H0 B τ σ ρ H cs E Q (r.bind k))
    (g : ∀ a st1 v H1, r = .ok a st1 → Ext (isRa P) H H1 → Row P H1 st1 → R H1 a v → XPo P H0 B τ σ ρ H cs E Q (k a st1) → T v H1) : Post P B' H E R T r := by
  cases r with
  | ok a st1 => exact fun v H1 e1 w1 x => g a st1 v H1 rfl e1 w1 x h
  | exc c fs st1 => exact fun C dd H' m e' w x => h C dd H' m (e.trans e') w (hB _ _ _ x)
  | stuck => exact h
theorem dx_nil : DX X ra E [] xNil := PA.imp pa_nil fun σ H Q ⟨H0, B, τ, ρ, st, cs, g, hc, nd, q⟩ => q [] H [] g Ext.refl hc nd (fun _ h => nomatch h) ⟨rfl, rfl⟩
/-- the rest behind one that is shared -/
theorem XPo.sh {P : Par} {H0 H H1 : Hp} {B : Addr → Prop} {τ : List Tmp} {σ : L2.St} {ρ : SE} {cs : List Addr} {E : XK} {Q : List V → Hp → Prop} {r : Res (List (Kd × D))} {d : D} {v : V} (e1 : Ext (isRa P) H H1) (rv : ∀ (cs' : List Addr) (H' : Hp), Ext (isRa P) H1 H' → (∀ c ∈ cs', H1 c = none) → Rep P H' (fun a => (B a ∨ OwnA σ ρ a) ∨ a ∈ cs' ++ cs) d v)
    (q : XPo P H0 B τ σ ρ H cs E Q (r.bind fun l st2 => .ok ((.sh, d) :: l) st2)) : XPo P H0 B τ σ ρ H1 cs E (fun vs H' => Q (v :: vs) H') r := by
  cases r with
  | ok l st2 => exact fun vs H' cs' g' e' hc' nd' fr x' => q (v :: vs) H' cs' g' (e1.trans e') hc' nd' (fun c h => e1.fresh (fr c h)) ⟨v, vs, rfl, rv cs' H' e' fr, x'⟩
  | exc c fs st2 => exact q
  | stuck => exact q
theorem dx_P (h : DE X ra E e m) (hr : DX X ra E es xm) (hs : starEach (e :: es) X.env = (false, eval e X.env) :: starEach es X.env := by rfl) : DX X ra E (e :: es) (xP m xm) :=
  PA.imp (pa_cons h hr hs) fun σ H Q ⟨H0, B, τ, ρ, st, cs, g, hc, nd, q⟩ => ⟨B, er ρ, st, g.pre, XPo.ofE g.ext (fun _ _ _ x => x) q fun d st1 v H1 _ e1 w1 r q1 => by
    split at q1
    · rename_i hp
      exact ⟨H0, B, τ, ρ, st1, cs, g.step e1 w1, fun c h => e1.dom c (hc c h), nd, XPo.sh e1 (fun cs' H' e' fr => Rep.any _ _ hp (r.ext e' fun a z => by rw [z]; exact g.bra)) q1⟩
    · exact q1.elim⟩
theorem dx_S (h : DE X ra E e m) (hr : DX X ra E es xm) (hs : starEach (e :: es) X.env = (false, eval e X.env) :: starEach es X.env := by rfl) : DX X ra E (e :: es) (xS m xm) :=
  PA.imp (pa_cons h hr hs) fun σ H Q ⟨H0, B, τ, ρ, st, cs, g, hc, nd, q⟩ => ⟨_, erS ρ, st, g.preSC hc, XPo.ofE g.ext (fun _ _ _ x => xrep_less (fun a z => .inl (.inl z)) x) q fun d st1 v H1 _ e1 w1 r q1 =>
    ⟨H0, B, τ, ρ, st1, cs, g.step e1 w1, fun c h => e1.dom c (hc c h), nd, XPo.sh e1 (fun cs' H' e' fr => (Rep.freshC (C := fun a => a ∈ cs') fr _ _ r).ext e' (fun a z => by rw [z]; exact .inl (.inl (.inl g.bra))) |>.less fun a z => by
      rcases z with z | z
      · exact .inl (.inl z)
      · rcases List.mem_append.mp z with z | z
        · exact .inr z
        · exact .inl (.inr z)) q1⟩⟩
theorem dx_O (h : DF X ra E e am) (hr : DX X ra E es xm) (hs : starEach (e :: es) X.env = (false, eval e X.env) :: starEach es X.env := by rfl) : DX X ra E (e :: es) (xO am xm) :=
  PA.imp (pa_cons h hr hs) fun σ H Q ⟨H0, B, τ, ρ, st, cs, g, hc, nd, q⟩ => ⟨B, er ρ, st, g.pre, XPo.ofE g.ext (fun _ _ _ x => x) q fun d st1 v H1 _ e1 w1 r q1 => by
    obtain ⟨p, vs, rfl, hn, h1, h2⟩ := r
    split at q1
    · rename_i hp
      have np : p ∉ cs := fun z => hc p z hn
      have g1 : GoodC (pr X ra) H0 B (fun a => a ∈ p :: cs) τ σ ρ H1 st1 := ((g.moreP hn).step e1 w1).lessC fun a z => List.mem_cons.mp z
      have hp1 : H1 p ≠ none := by rw [h1]; exact fun z => nomatch z
      refine ⟨H0, B, τ, ρ, st1, p :: cs, g1, fun c h => ?_, List.nodup_cons.mpr ⟨np, nd⟩, ?_⟩
      · rcases List.mem_cons.mp h with h | h
        · rw [h]; exact hp1
        · exact e1.dom c (hc c h)
      · cases hr : xm ρ st1 with
        | ok l st2 =>
          rw [hr] at q1
          intro us H' cs' g' e' hc' nd' fr x'
          have mem : ∀ a, a ∈ (p :: cs') ++ cs ↔ a ∈ cs' ++ p :: cs := fun a => by
            simp only [List.mem_append, List.mem_cons]
            constructor
            · rintro ((z | z) | z)
              · exact .inr (.inl z)
              · exact .inl z
              · exact .inr (.inr z)
            · rintro (z | z | z)
              · exact .inl (.inr z)
              · exact .inl (.inl z)
              · exact .inr z
          refine q1 (.ref p :: us) H' (p :: cs') (g'.lessC fun a z => (mem a).mp z) (e1.trans e') (fun c h => hc' c ((mem c).mp h)) ((List.perm_middle (a := p) (l₁ := cs') (l₂ := cs)).nodup_iff.mp nd') (fun c h => ?_) ⟨p, us, cs', rfl, rfl, ?_, x'.less fun a z => z.imp id (mem a).mp⟩
          · rcases List.mem_cons.mp h with h | h
            · rw [h]; exact hn
            · exact e1.fresh (fr c h)
          · have np' : ¬ (isRa (pr X ra)) p := fun z => g.notB (g.ext.fresh hn) (by rw [show p = ra.a from z]; exact g.bra)
            have t : Top (pr X ra) H1 (fun a => (B a ∨ OwnA σ ρ a) ∨ a ∈ (p :: cs') ++ cs) (.lst d) p := ⟨vs, h1, Reps.any _ _ hp h2⟩
            exact t.ext e' (fun a z => by rw [z]; exact .inl (.inl g.bra)) np'
        | exc c fs st2 => rw [hr] at q1; exact q1
        | stuck => rw [hr] at q1; exact q1
    · exact q1.elim⟩
/-- the stores -/
def sPar (is : List Nat) (m : XM) : SM := fun ρ st => (m ρ st).bind fun l st1 => if is.length = l.length ∧ okK l = true ∧ is.all (notLent ρ) = true then .ok (.nx, setAll ρ (is.zip l)) st1 else .stuck
theorem par_of {is : List Nat} {N : Ends} {σ : L2.St} {H : Hp} (h : tS X ra E (sPar is xm) N σ H) : tXA X ra E xm σ H fun vs H1 => vs.length = is.length ∧ N.nx (setAll σ (is.zip vs)) H1 := by
  obtain ⟨H0, B, τ, ρ, st, g, q⟩ := h
  refine ⟨H0, B, τ, ρ, st, [], g.lessC (fun a z => absurd z (by simp)), (fun c h => absurd h (by simp)), List.nodup_nil, ?_⟩
  unfold sPar at q
  cases hr : xm ρ st with
  | ok l st2 =>
    rw [hr] at q
    intro us H' cs' g' e' hc' nd' fr x'
    have q : SPost (pr X ra) H0 B τ E N (if is.length = l.length ∧ okK l = true ∧ is.all (notLent ρ) = true then .ok (.nx, setAll ρ (is.zip l)) st2 else .stuck) := q
    split at q
    · rename_i hh
      rw [List.append_nil] at g' nd' x'
      exact ⟨by rw [x'.length]; exact hh.1.symm, q _ H' (GoodC.stores is l us cs' hh.1 hh.2.1 g' nd' (fun a z => z) x' hh.2.2)⟩
    · exact q.elim
  | exc c fs st2 => rw [hr] at q; exact q
  | stuck => rw [hr] at q; exact q
theorem ds_par2 {i j : Nat} {x y : Str} {a b : Expr} {px py pt : Pos} {kt k2 pt2} (hc : X.calm = true) (hN : X.N.Nodup) (hi : X.N[i]? = some x) (hj : X.N[j]? = some y) (hx : X.env.scope.names.lookup x = some .local) (hy : X.env.scope.names.lookup y = some .local) (ha : DX X ra E [a, b] xm)
    (hw : swappedStores [.Tuple [.Name x px, .Name y py] kt pt] (.Tuple [a, b] k2 pt2) X.env = pure (some [x, y]) := by rfl) (hij : i ≠ j := by decide)
    (hs : swapsWithSole [.Tuple [.Name x px, .Name y py] kt pt] (.Tuple [a, b] k2 pt2) pos.line X.env = pure false := by rfl) : DSt X ra E (.Assign [.Tuple [.Name x px, .Name y py] kt pt] (.Tuple [a, b] k2 pt2) pos) (sPar [i, j] xm) :=
  PS.imp (ps_par hc hN hi hj hij hx hy ha hw hs) fun N σ H h => by
    obtain ⟨H0, B, τ, ρ, st, cs, g, h1, h2, q⟩ := par_of h
    refine ⟨H0, B, τ, ρ, st, cs, g, h1, h2, ?_⟩
    cases hr : xm ρ st with
    | ok l st2 =>
      rw [hr] at q
      intro us H' cs' g' e' hc' nd' fr x'
      obtain ⟨hl, z⟩ := q us H' cs' g' e' hc' nd' fr x'
      match us, hl with
      | [u, v], _ => exact ⟨u, v, rfl, z⟩
    | exc c fs st2 => rw [hr] at q; exact q
    | stuck => rw [hr] at q; exact q
theorem ds_par3 {i j l : Nat} {x y z : Str} {a b c : Expr} {px py pz pt : Pos} {kt k2 pt2} (hc : X.calm = true) (hN : X.N.Nodup) (hi : X.N[i]? = some x) (hj : X.N[j]? = some y) (hl : X.N[l]? = some z) (hx : X.env.scope.names.lookup x = some .local) (hy : X.env.scope.names.lookup y = some .local) (hz : X.env.scope.names.lookup z = some .local) (ha : DX X ra E [a, b, c] xm)
    (hw : swappedStores [.Tuple [.Name x px, .Name y py, .Name z pz] kt pt] (.Tuple [a, b, c] k2 pt2) X.env = pure (some [x, y, z]) := by rfl) (hij : i ≠ j := by decide) (hil : i ≠ l := by decide) (hjl : j ≠ l := by decide)
    (hs : swapsWithSole [.Tuple [.Name x px, .Name y py, .Name z pz] kt pt] (.Tuple [a, b, c] k2 pt2) pos.line X.env = pure false := by rfl) : DSt X ra E (.Assign [.Tuple [.Name x px, .Name y py, .Name z pz] kt pt] (.Tuple [a, b, c] k2 pt2) pos) (sPar [i, j, l] xm) :=
  PS.imp (ps_par3 hc hN hi hj hl hij hil hjl hx hy hz ha hw hs) fun N σ H h => by
    obtain ⟨H0, B, τ, ρ, st, cs, g, h1, h2, q⟩ := par_of h
    refine ⟨H0, B, τ, ρ, st, cs, g, h1, h2, ?_⟩
    cases hr : xm ρ st with
    | ok l st2 =>
      rw [hr] at q
      intro us H' cs' g' e' hc' nd' fr x'
      obtain ⟨hl, z⟩ := q us H' cs' g' e' hc' nd' fr x'
      match us, hl with
      | [u, v, w], _ => exact ⟨u, v, w, rfl, z⟩
    | exc c fs st2 => rw [hr] at q; exact q
    | stuck => rw [hr] at q; exact q
end
end Ev

namespace Ev
open PySem PySem.Spec PyProof.Rows L2

section
variable {X : Cx} {Tb : Tbs} {ra : RA Tb} {E : XK} {s : Stmt} {ss : List Stmt} {n n' nb : SM} {e iter : Expr} {es : List Expr} {m : EM} {tm : TM} {am : AM} {gm : GM} {ga : GA} {xm : XM} {pos p : Pos} {tg : Expr} {t : Tg} {k nA : Nat} {x : Str} {F : FM}
/-! ### calls of the defs -/
theorem de_callD (G : FnD X.prog X.w X.K X.mg X.base Tb k x nA F) (hr : Room k X.A) (hx : Passes (L2.CX X.prog X.w) X E) (ha : DA X ra E (e :: es) am) (hg : Gl X x := by rfl) (hdb : (x == ("__debug__" : Str)) = false := by decide)
    (he : starEach (e :: es) X.env = (false, eval e X.env) :: starEach es X.env := by rfl) (hpl : (backTo pos (starEach es X.env)).any (·.1) = false := by rfl) : DE X ra E (.Call (.Name x p) (e :: es) [] pos) (cCallN nA F am) := by
  obtain ⟨f, fd, ps, G, hm, hk, hb⟩ := G.ex
  exact de_call G hr hg hm hk hb hx ha hdb he hpl
theorem de_callD0 (G : FnD X.prog X.w X.K X.mg X.base Tb k x 0 F) (hr : Room k X.A) (hx : Passes (L2.CX X.prog X.w) X E) (hg : Gl X x := by rfl) (hdb : (x == ("__debug__" : Str)) = false := by decide) : DE X ra E (.Call (.Name x p) [] [] pos) (cCallN 0 F aNil) := by
  obtain ⟨f, fd, ps, G, hm, hk, hb⟩ := G.ex
  exact de_call0 G hr hg hm hk hb hx hdb
/-- arguments that may take from an owned list -/
def gaC (g : GM) (r : GA) : GA := fun ρ st => (g ρ st).bind fun q st1 => (r q.2 st1).bind fun w st2 => .ok (q.1 :: w.1, w.2) st2
theorem dga_cons (h : DG X ra E e gm) (hr : PA X es (tGA X ra E ga)) (hs : starEach (e :: es) X.env = (false, eval e X.env) :: starEach es X.env := by rfl) : PA X (e :: es) (tGA X ra E (gaC gm ga)) :=
  PA.imp (pa_cons h hr hs) fun σ H Q ⟨H0, B, τ, ρ, st, g, q⟩ => ⟨H0, B, τ, ρ, st, g, GPost.seq q fun d ρ' st1 v H1 g1 r q1 => by
    have q1 : GPost (pr X ra) H0 B τ σ E (fun H' B d v => Reps (pr X ra) H' B d v) Q ((ga ρ' st1).bind fun w st2 => .ok (d :: w.1, w.2) st2) := q1
    refine ⟨H0, B, (d, v, []) :: τ, ρ', st1, ⟨g1.bra, g1.dom0, g1.row, g1.ext, g1.new, g1.sh, g1.own, g1.dis, fun t m => ?_, fun t m i hi => ?_, g1.len⟩, ?_⟩
    · rcases List.mem_cons.mp m with m | m
      · subst m
        exact r.less fun a z => z.elim (fun z => z.imp id fun ⟨i, k, d, n, q1, q2, q3⟩ => ⟨i, k, d, q1, q2, q3⟩) fun z => z.elim
      · exact g1.tmp t m
    · rcases List.mem_cons.mp m with m | m
      · subst m; exact absurd hi (by simp)
      · exact g1.pin t m i hi
    · cases hr : ga ρ' st1 with
      | ok w st2 =>
        rw [hr] at q1
        intro vs H' g' rs
        refine q1 (v :: vs) H' ⟨g'.bra, g'.dom0, g'.row, g'.ext, g'.new, g'.sh, g'.own, g'.dis, fun t m => g'.tmp t (List.mem_cons_of_mem _ m), fun t m => g'.pin t (List.mem_cons_of_mem _ m), g'.len⟩ (Reps.cons ?_ rs)
        exact (g'.tmp _ List.mem_cons_self).less fun a z => .inl (z.imp id fun ⟨i, k, d, q1, q2, q3⟩ => ⟨i, k, d, (fun z => nomatch z), q1, q2, q3⟩)
      | exc c fs st2 => rw [hr] at q1; exact q1
      | stuck => rw [hr] at q1; exact q1⟩
def gCall (nA : Nat) (F : FM) (ga : GA) : GM := fun ρ st => (ga ρ st).bind fun q st1 => if q.1.length = nA then (F q.1 st1).bind fun d st2 => .ok (d, q.2) st2 else .stuck
theorem dg_call (G : FnD X.prog X.w X.K X.mg X.base Tb k x nA F) (hr : Room k X.A) (hx : Passes (L2.CX X.prog X.w) X E) (ha : PA X (e :: es) (tGA X ra E ga)) (hg : Gl X x := by rfl) (hdb : (x == ("__debug__" : Str)) = false := by decide)
    (he : starEach (e :: es) X.env = (false, eval e X.env) :: starEach es X.env := by rfl) (hpl : (backTo pos (starEach es X.env)).any (·.1) = false := by rfl) : DG X ra E (.Call (.Name x p) (e :: es) [] pos) (gCall nA F ga) := by
  obtain ⟨f, fd, ps, G, hm, hk, hb⟩ := G.ex
  refine PE.imp (pe_call G hr hg hm hk hb .nil hx ha hdb he hpl) fun σ H Q ⟨H0, B, τ, ρ, st, g, q⟩ => ⟨H0, B, τ, ρ, st, g, GPost.seq q fun ds ρ' st1 vs H1 g1 rs q1 => ?_⟩
  have q1 : GPost (pr X ra) H0 B τ σ E (fun H' B d v => Rep (pr X ra) H' B d v) Q (if ds.length = nA then (F ds st1).bind fun d st2 => .ok (d, ρ') st2 else .stuck) := q1
  split at q1
  · rename_i hl
    rw [List.append_nil]
    have ps := g1.preS
    refine ⟨by rw [rs.length]; exact hl, ra, fun a => B a ∨ OwnA σ ρ' a, st1, ds, ps.bra, ps.dom, ps.row, rs, ?_⟩
    cases hf : F ds st1 with
    | ok d st2 =>
      rw [hf] at q1
      exact fun v H' e' r' x' => q1 v H' (g1.step e' r') x'
    | exc c fs st2 =>
      rw [hf] at q1
      exact fun C dd H' m e' w x => q1 C dd H' m (g1.ext.trans e') w (xrep_less (fun a z => .inl z) x)
    | stuck => rw [hf] at q1; exact q1
  · exact q1.elim
/-! ### for over what such an expression gives -/
def itD : D → Option (List D)
  | .lst xs => some xs
  | .tup xs => some xs
  | _ => none
def sForG (lt : Bool) (gm : GM) (t : Tg) (nb : SM) : SM := fun ρ st => (gm ρ st).bind fun q st1 => match q.1 with
  | .lst xs => if lt = true then forL t nb xs q.2 st1 else .stuck
  | .tup xs => if lt = true then .stuck else forL t nb xs q.2 st1
  | _ => .stuck
theorem pushG {P : Par} {H0 H : Hp} {B : Addr → Prop} {τ : List Tmp} {σ : L2.St} {ρ : SE} {st : DS} {d : D} {v : V} (g : Good P H0 B τ σ ρ H st) (r : Rep P H (fun a => B a ∨ OwnA σ ρ a) d v) : Good P H0 B ([(d, v)].map (fun t => (t.1, t.2, [])) ++ τ) σ ρ H st := by
  refine ⟨g.bra, g.dom0, g.row, g.ext, g.new, g.sh, g.own, g.dis, fun t m => ?_, fun t m i hi => ?_, g.len⟩
  · rcases List.mem_append.mp m with m | m
    · rw [List.mem_singleton.mp m]
      exact r.less fun a z => z.elim (fun z => z.imp id fun ⟨i, k, d, n, q1, q2, q3⟩ => ⟨i, k, d, q1, q2, q3⟩) fun z => z.elim
    · exact g.tmp t m
  · rcases List.mem_append.mp m with m | m
    · rw [List.mem_singleton.mp m] at hi
      exact absurd hi (by simp)
    · exact g.pin t m i hi
theorem ds_forGL (hp : PassesOwn (model X.prog X.w) X.A X.env X.xe) (hc : X.calm = true) (hi : DG X ra E iter gm) (ht : TgS X ra tg t) (hb : DSs X ra E ss nb) (hs : ∀ x, foldedSetIterable iter X.env x = pure x := by intro _; rfl) : DSt X ra E (.For tg iter ss [] pos) (sForG true gm t nb) := by
  obtain ⟨g0, hg, hk⟩ := ht
  refine PS.imp (ps_for hp hc (pi_list hi) hg hb hs) fun N σ H ⟨H0, B, τ, ρ, st, g, q⟩ => ⟨H0, B, τ, ρ, st, g, SPost.ofG q fun d ρ' st1 v H1 g1 r q1 => ?_⟩
  cases d with
  | lst xs =>
    have q1 : SPost (pr X ra) H0 B τ E N (forL t nb xs ρ' st1) := q1
    obtain ⟨a, vs, rfl, s, n, rs⟩ := id r
    rw [← forL_fin (t := t) (nb := nb) (r := forL t nb xs ρ' st1)] at q1
    exact ⟨a, rfl, ⟨vs, SqL.of s⟩, for_core (ls := []) (nw := []) (τ := τ) (walks_lst rfl) hb hk (.inr rfl) (fun _ _ _ h => nomatch h) (pushG g1 r) q1⟩
  | _ => exact q1.elim
theorem ds_forGT (hp : PassesOwn (model X.prog X.w) X.A X.env X.xe) (hc : X.calm = true) (hi : DG X ra E iter gm) (ht : TgS X ra tg t) (hb : DSs X ra E ss nb) (hs : ∀ x, foldedSetIterable iter X.env x = pure x := by intro _; rfl) : DSt X ra E (.For tg iter ss [] pos) (sForG false gm t nb) := by
  obtain ⟨g0, hg, hk⟩ := ht
  refine PS.imp (ps_for hp hc (pi_tup hi) hg hb hs) fun N σ H ⟨H0, B, τ, ρ, st, g, q⟩ => ⟨H0, B, τ, ρ, st, g, SPost.ofG q fun d ρ' st1 v H1 g1 r q1 => ?_⟩
  cases d with
  | tup xs =>
    have q1 : SPost (pr X ra) H0 B τ E N (forL t nb xs ρ' st1) := q1
    obtain ⟨a, vs, rfl, s, rs⟩ := id r
    rw [← forL_fin (t := t) (nb := nb) (r := forL t nb xs ρ' st1)] at q1
    exact ⟨a, rfl, ⟨vs, s⟩, for_core (ls := []) (nw := []) (τ := τ) (walks_tup rfl) hb hk (.inr rfl) (fun _ _ _ h => nomatch h) (pushG g1 r) q1⟩
  | _ => exact q1.elim
/-! ### ranges that hold nothing -/
theorem di0_range1 (hg : Gl X "range") (hm : X.mg "range" = none) (ha : DA X ra E [e] am) (hs : starEach [e] X.env = [(false, eval e X.env)] := by rfl) : DI0 X ra E tg (.Call (.Name "range" p) [e] [] pos) (iRange1 am) :=
  PI.imp (pi_range1 hg hm ha hs) fun σ H R ⟨B, ρ, st, p, q⟩ => ⟨B, ρ, st, p, Post.seq q fun ds st1 vs H1 hq e1 w1 rs q1 => by
    clear hq
    split at q1
    · rename_i j
      split at q1
      · rename_i hj
        obtain ⟨v, w, rfl, h1, h2⟩ := rs
        cases (show v = V.int j from h1)
        cases (show w = [] from h2)
        refine ⟨j, rfl, hj.1, hj.2, q1 _ H1 Ext.refl w1 ?_⟩
        have e := walks_range (P := pr X ra) (lo := 0) (hi := j)
        rwa [Int.sub_zero] at e
      · exact q1.elim
    · exact q1.elim⟩
theorem di0_range2 {e2 : Expr} (hg : Gl X "range") (hm : X.mg "range" = none) (ha : DA X ra E [e, e2] am) (hs : starEach [e, e2] X.env = [(false, eval e X.env), (false, eval e2 X.env)] := by rfl) (hs2 : starEach [e2] X.env = [(false, eval e2 X.env)] := by rfl) : DI0 X ra E tg (.Call (.Name "range" p) [e, e2] [] pos) (iRange2 am) :=
  PI.imp (pi_range2 hg hm ha hs hs2) fun σ H R ⟨B, ρ, st, p, q⟩ => ⟨B, ρ, st, p, Post.seq q fun ds st1 vs H1 hq e1 w1 rs q1 => by
    clear hq
    split at q1
    · rename_i i j
      split at q1
      · rename_i hj
        obtain ⟨v, w, rfl, h1, h2⟩ := rs
        obtain ⟨v2, w2, rfl, h3, h4⟩ := h2
        cases (show v = V.int i from h1)
        cases (show v2 = V.int j from h3)
        cases (show w2 = [] from h4)
        exact ⟨i, j, rfl, hj, q1 _ H1 Ext.refl w1 walks_range⟩
      · exact q1.elim
    · exact q1.elim⟩
/-! ### zip -/
def zipD (xs ys : List D) : List D := List.zipWith (fun x y => D.tup [x, y]) xs ys
theorem zipD_get {xs ys : List D} {i : Nat} {d : D} (h : (zipD xs ys)[i]? = some d) : ∃ x y, xs[i]? = some x ∧ ys[i]? = some y ∧ d = .tup [x, y] := by
  unfold zipD at h
  rw [List.getElem?_zipWith] at h
  split at h
  · rename_i x y h1 h2
    exact ⟨x, y, h1, h2, (Option.some.inj h).symm⟩
  · cases h
theorem pair_rep {P : Par} {H H' : Hp} {B : Addr → Prop} {x y : D} {vx vy v : V} {T : Addr} (hv : v = .ref T) (ht : H T = none) (hh : H' = upd H T (.tup [vx, vy])) (h1 : Rep P H B x vx) (h2 : Rep P H B y vy) : Rep P H' B (.tup [x, y]) v := by
  subst hh
  have e : Ext (fun _ => False) H (upd H T (.tup [vx, vy])) := Ext.new ht
  exact ⟨T, [vx, vy], hv, SqT.of upd_same, Reps.cons (h1.ext e fun a z => z.elim) (Reps.cons (h2.ext e fun a z => z.elim) Reps.nil)⟩
theorem walks_zipL {P : Par} {a b : Addr} {xs ys : List D} : Walks P (Itz P.K a b) [(.lst xs, .ref a), (.lst ys, .ref b)] (zipD xs ys) where
  goes i H B hi t := by
    obtain ⟨a', vs, ea, h, _, r⟩ := t _ (List.mem_cons_self)
    obtain ⟨b', ws, eb, h2, _, r2⟩ := t _ (List.mem_cons_of_mem _ (List.mem_singleton.mpr rfl))
    cases ea
    cases eb
    unfold zipD at hi
    rw [List.length_zipWith] at hi
    obtain ⟨v, hv, _⟩ := r.get (List.getElem?_eq_getElem (i := i) (l := xs) (by omega))
    obtain ⟨w, hw, _⟩ := r2.get (List.getElem?_eq_getElem (i := i) (l := ys) (by omega))
    exact ⟨vs, ws, v, w, SqL.of h, SqL.of h2, hv, hw⟩
  stops H B t := by
    obtain ⟨a', vs, ea, h, _, r⟩ := t _ (List.mem_cons_self)
    obtain ⟨b', ws, eb, h2, _, r2⟩ := t _ (List.mem_cons_of_mem _ (List.mem_singleton.mpr rfl))
    cases ea
    cases eb
    unfold zipD
    rw [List.length_zipWith]
    refine ⟨vs, ws, SqL.of h, SqL.of h2, ?_⟩
    have := r.length
    have := r2.length
    omega
  yields i H x H' B d t hd y := by
    obtain ⟨a', vs, ea, h, _, r⟩ := t _ (List.mem_cons_self)
    obtain ⟨b', ws, eb, h2, _, r2⟩ := t _ (List.mem_cons_of_mem _ (List.mem_singleton.mpr rfl))
    cases ea
    cases eb
    obtain ⟨dx, dy, e1, e2, rfl⟩ := zipD_get hd
    obtain ⟨T, vx, vy, hv, hT, hH, g1, g2⟩ := y
    obtain ⟨v1, f1, r1⟩ := r.get e1
    obtain ⟨v2, f2, r2'⟩ := r2.get e2
    have z1 := g1 vs (SqL.of h)
    have z2 := g2 ws (SqL.of h2)
    rw [f1] at z1
    rw [f2] at z2
    cases z1
    cases z2
    exact ⟨.inr ⟨T, _, hT, hH⟩, pair_rep hv hT hH r1 r2'⟩
theorem walks_zipT {P : Par} {a b : Addr} {xs ys : List D} : Walks P (RZ.ItzT P.K a b) [(.tup xs, .ref a), (.tup ys, .ref b)] (zipD xs ys) where
  goes i H B hi t := by
    obtain ⟨a', vs, ea, h, r⟩ := t _ (List.mem_cons_self)
    obtain ⟨b', ws, eb, h2, r2⟩ := t _ (List.mem_cons_of_mem _ (List.mem_singleton.mpr rfl))
    cases ea
    cases eb
    unfold zipD at hi
    rw [List.length_zipWith] at hi
    obtain ⟨v, hv, _⟩ := r.get (List.getElem?_eq_getElem (i := i) (l := xs) (by omega))
    obtain ⟨w, hw, _⟩ := r2.get (List.getElem?_eq_getElem (i := i) (l := ys) (by omega))
    exact ⟨vs, ws, v, w, h, h2, hv, hw⟩
  stops H B t := by
    obtain ⟨a', vs, ea, h, r⟩ := t _ (List.mem_cons_self)
    obtain ⟨b', ws, eb, h2, r2⟩ := t _ (List.mem_cons_of_mem _ (List.mem_singleton.mpr rfl))
    cases ea
    cases eb
    unfold zipD
    rw [List.length_zipWith]
    refine ⟨vs, ws, h, h2, ?_⟩
    have := r.length
    have := r2.length
    omega
  yields i H x H' B d t hd y := by
    obtain ⟨a', vs, ea, h, r⟩ := t _ (List.mem_cons_self)
    obtain ⟨b', ws, eb, h2, r2⟩ := t _ (List.mem_cons_of_mem _ (List.mem_singleton.mpr rfl))
    cases ea
    cases eb
    obtain ⟨dx, dy, e1, e2, rfl⟩ := zipD_get hd
    obtain ⟨T, vx, vy, hv, hT, hH, g1, g2⟩ := y
    obtain ⟨v1, f1, r1⟩ := r.get e1
    obtain ⟨v2, f2, r2'⟩ := r2.get e2
    have z1 := g1 vs h
    have z2 := g2 ws h2
    rw [f1] at z1
    rw [f2] at z2
    cases z1
    cases z2
    exact ⟨.inr ⟨T, _, hT, hH⟩, pair_rep hv hT hH r1 r2'⟩
def iZipM (am : AM) : AM := fun ρ st => (am ρ st).bind fun ds st1 => match ds with
  | [.lst xs, .lst ys] => .ok (zipD xs ys) st1
  | [.tup xs, .tup ys] => .ok (zipD xs ys) st1
  | _ => .stuck
theorem di_zip {elts : List Expr} {kk : Nat} {tpos : Pos} {e2 : Expr} (hg : Gl X "zip") (hm : X.mg "zip" = none) (ha : DA X ra E [e, e2] am)
    (hs : starEach [e, e2] X.env = (false, eval e X.env) :: starEach [e2] X.env := by rfl) (hpl : (backTo pos (starEach [e2] X.env)).any (·.1) = false := by rfl) : DI X ra E (.Tuple elts kk tpos) (.Call (.Name "zip" p) [e, e2] [] pos) (iZipM am) :=
  PI.imp (RZ.pi_zipA hg hm ha hs hpl) fun σ H R ⟨B, ρ, st, p, q⟩ => ⟨B, ρ, st, p, Post.seq q fun ds st1 vs H1 hq e1 w1 rs q1 => by
    clear hq
    split at q1
    · rename_i xs ys
      obtain ⟨v, w, rfl, h1, h2⟩ := rs
      obtain ⟨v2, w2, rfl, h3, h4⟩ := h2
      cases (show w2 = [] from h4)
      obtain ⟨a, us, rfl, ha, na, ra1⟩ := id h1
      obtain ⟨b, ws, rfl, hb, nb, rb1⟩ := id h3
      refine ⟨a, b, us, ws, rfl, .inl ⟨SqL.of ha, SqL.of hb, q1 _ H1 Ext.refl w1 ⟨_, walks_zipL, fun t m => ?_⟩⟩⟩
      rcases List.mem_cons.mp m with m | m
      · rw [m]; exact h1
      · rw [List.mem_singleton.mp m]; exact h3
    · rename_i xs ys
      obtain ⟨v, w, rfl, h1, h2⟩ := rs
      obtain ⟨v2, w2, rfl, h3, h4⟩ := h2
      cases (show w2 = [] from h4)
      obtain ⟨a, us, rfl, ha, ra1⟩ := id h1
      obtain ⟨b, ws, rfl, hb, rb1⟩ := id h3
      refine ⟨a, b, us, ws, rfl, .inr ⟨ha, hb, q1 _ H1 Ext.refl w1 ⟨_, walks_zipT, fun t m => ?_⟩⟩⟩
      rcases List.mem_cons.mp m with m | m
      · rw [m]; exact h1
      · rw [List.mem_singleton.mp m]; exact h3
    · exact q1.elim⟩
end
end Ev

namespace Ev
open PySem PySem.Spec PyProof.Rows L2

section
variable {X : Cx} {Tb : Tbs} {ra : RA Tb} {E : XK} {s : Stmt} {ss : List Stmt} {n n' nb : SM} {e o : Expr} {es : List Expr} {m : EM} {pos p p2 : Pos}
/-! ### the row of draws -/
def rowV (sa : Addr) (st : DS) : List V := [.ref sa, .int st.pos, .int st.seed, .int st.rest]
def isRow (ρ : EE) (i : Nat) : Bool := match ρ[i]? with
  | some (some .row) => true
  | _ => false
theorem isRow_of {ρ : EE} {i : Nat} (h : isRow ρ i = true) : ρ[i]? = some (some .row) := by
  unfold isRow at h
  split at h
  · rename_i e
    exact e
  · cases h
def rowAt : Nat → DS → Option Int
  | 1, st => some st.pos
  | 2, st => some st.seed
  | 3, st => some st.rest
  | _, _ => none
def cRow (i j : Nat) : EM := fun ρ st => if isRow ρ i = true then match rowAt j st with
  | some z => .ok (.int z) st
  | none => .stuck
  else .stuck
theorem row_slot {B : Addr → Prop} {σ : L2.St} {ρ : EE} {H : Hp} {st : DS} {i : Nat} (p : Pre (pr X ra) B σ ρ H st) (h : isRow ρ i = true) : σ[i]? = some (some (.ref ra.a)) := by
  obtain ⟨v, h1, h2⟩ := p.env i .row (isRow_of h)
  rw [h1, show v = V.ref ra.a from h2]
theorem rowAt_get {sa : Addr} {st : DS} {j : Nat} {z : Int} (h : rowAt j st = some z) : atI (rowV sa st) (j : Int) = some (.int z) := by
  unfold rowAt at h
  split at h
  · cases h; rfl
  · cases h; rfl
  · cases h; rfl
  · cases h
theorem de_row {i j : Nat} {k1 : Nat} {p1 : Pos} (ho : PE X o (tVar i)) (hs : PlainIx (.Constant (.int (j : Int)) k1 p1) := by intro _ _; rfl) : DE X ra E (.Subscript o (.Constant (.int (j : Int)) k1 p1) pos) (cRow i j) := by
  refine PE.imp (pe_ix ix_list ho pe_int hs) fun σ H Q ⟨B, ρ, st, p, q⟩ => ?_
  unfold cRow at q
  split at q
  · rename_i hr
    split at q
    · rename_i z hz
      obtain ⟨sa, h1, h2, _⟩ := id p.row
      refine ⟨_, row_slot p hr, ra.a, rowV sa st, j, .int z, rfl, rfl, SqL.of h1, rowAt_get hz, q _ H Ext.refl p.row rfl⟩
    · exact q.elim
  · exact q.elim
/-- len(row[0]) -/
def cRowLen (i : Nat) : EM := fun ρ st => if isRow ρ i = true then .ok (.int st.ns.length) st else .stuck
theorem de_rowLen {i : Nat} {k1 : Nat} {p1 p3 : Pos} (hm : X.mg "len" = none) (ho : PE X o (tVar i)) (hs : PlainIx (.Constant (.int 0) k1 p1) := by intro _ _; rfl) (hg : Gl X "len" := by rfl)
    (he : starEach [.Subscript o (.Constant (.int 0) k1 p1) p3] X.env = (false, eval (.Subscript o (.Constant (.int 0) k1 p1) p3) X.env) :: starEach [] X.env := by rfl) (hpl : (backTo pos (starEach [] X.env)).any (·.1) = false := by rfl) : DE X ra E (.Call (.Name "len" p) [.Subscript o (.Constant (.int 0) k1 p1) p3] [] pos) (cRowLen i) := by
  refine PE.imp (pe_callB call_len_seq hg hm PySem.boot_len (pa_cons (pe_ix ix_list ho pe_int hs) pa_nil he) (by decide) (by decide) he hpl) fun σ H Q ⟨B, ρ, st, p, q⟩ => ?_
  unfold cRowLen at q
  split at q
  · rename_i hr
    obtain ⟨sa, h1, h2, _⟩ := id p.row
    refine ⟨_, row_slot p hr, ra.a, rowV sa st, 0, .ref sa, rfl, rfl, SqL.of h1, rfl, sa, _, rfl, .inl h2.sq, ?_⟩
    rw [List.length_map]
    exact q _ H Ext.refl p.row rfl
  · exact q.elim
/-- row[0][e] -/
def cRowCell (i : Nat) (m : EM) : EM := fun ρ st => if isRow ρ i = true then (m ρ st).bind fun d st1 => match d with
  | .int z => match atI st.ns z with
    | some c => .ok (.int c) st1
    | none => .stuck
  | _ => .stuck
  else .stuck
theorem atI_map {α β : Type} {f : α → β} {xs : List α} {z : Int} {c : α} (h : atI xs z = some c) : atI (xs.map f) z = some (f c) := by
  unfold atI at h ⊢
  rw [List.length_map]
  cases hx : ixN xs.length z with
  | none => rw [hx] at h; cases h
  | some j =>
    rw [hx] at h
    have h : xs[j]? = some c := h
    show (xs.map f)[j]? = _
    rw [List.getElem?_map, h]
    rfl
theorem de_rowCell {i : Nat} {k1 : Nat} {p1 p3 : Pos} (ho : PE X o (tVar i)) (he : DE X ra E e m) (hs : PlainIx (.Constant (.int 0) k1 p1) := by intro _ _; rfl) (hs2 : PlainIx e := by intro _ _; rfl) : DE X ra E (.Subscript (.Subscript o (.Constant (.int 0) k1 p1) p3) e pos) (cRowCell i m) := by
  refine PE.imp (pe_ix ix_list (pe_ix ix_list ho pe_int hs) he hs2) fun σ H Q ⟨B, ρ, st, p, q⟩ => ?_
  unfold cRowCell at q
  split at q
  · rename_i hr
    obtain ⟨sa, h1, h2, _⟩ := id p.row
    refine ⟨_, row_slot p hr, ra.a, rowV sa st, 0, .ref sa, rfl, rfl, SqL.of h1, rfl, B, ρ, st, p, ?_⟩
    refine Post.seq q fun d st1 v H1 hq e1 w1 r q1 => ?_
    clear hq
    split at q1
    · rename_i z
      split at q1
      · rename_i c hc
        exact ⟨sa, st.ns.map V.int, z, .int c, rfl, rep_int r, (h2.ext e1).sq, atI_map hc, q1 _ H1 Ext.refl w1 rfl⟩
      · exact q1.elim
    · exact q1.elim
  · exact q.elim
/-- row[j] = e -/
def rowPut : Nat → Int → DS → Option DS
  | 1, z, st => some { st with pos := z }
  | 2, z, st => some { st with seed := z }
  | 3, z, st => some { st with rest := z }
  | _, _, _ => none
def sRow (i j : Nat) (m : EM) : SM := fun ρ st => if isRow (er ρ) i = true then (m (er ρ) st).bind fun d st1 => match d with
  | .int z => match rowPut j z st1 with
    | some st2 => .ok (.nx, ρ) st2
    | none => .stuck
  | _ => .stuck
  else .stuck
theorem rowPut_set {sa : Addr} {st st2 : DS} {j : Nat} {z : Int} (h : rowPut j z st = some st2) : ∃ k, ixN (rowV sa st).length (j : Int) = some k ∧ (rowV sa st).set k (.int z) = rowV sa st2 ∧ st2.ns = st.ns := by
  unfold rowPut at h
  split at h
  · cases h; exact ⟨1, rfl, rfl, rfl⟩
  · cases h; exact ⟨2, rfl, rfl, rfl⟩
  · cases h; exact ⟨3, rfl, rfl, rfl⟩
  · cases h
theorem ds_row {i j : Nat} {k1 : Nat} {p1 : Pos} (ho : PE X o (tVar i)) (he : DE X ra E e m)
    (ha : ∀ v, assign (.Subscript o (.Constant (.int (j : Int)) k1 p1) p2) X.env v = (do
      let ov ← holding [v] (eval o X.env)
      let iv ← holding [v, ov] (eval (.Constant (.int (j : Int)) k1 p1) X.env)
      standAt p2
      holding [v, ov, iv] (setItem ov iv v)
      release [v, ov, iv] []) := by intro _; rfl)
    (hs : swapsWithSole [.Subscript o (.Constant (.int (j : Int)) k1 p1) p2] e pos.line X.env = pure false := by rfl) (hw : swappedStores [.Subscript o (.Constant (.int (j : Int)) k1 p1) p2] e X.env = pure none := by rfl)
    (h1 : (assignEach [.Subscript o (.Constant (.int (j : Int)) k1 p1) p2] X.env).map (·.2) = [assign (.Subscript o (.Constant (.int (j : Int)) k1 p1) p2) X.env] := by rfl) : DSt X ra E (.Assign [.Subscript o (.Constant (.int (j : Int)) k1 p1) p2] e pos) (sRow i j m) := by
  refine PS.imp (ps_asg he (pg_sub ho pe_int set_list ha) hs hw h1) fun N σ H ⟨H0, B, τ, ρ, st, g, q⟩ => ?_
  unfold sRow at q
  split at q
  · rename_i hr
    refine ⟨B, er ρ, st, g.pre, SPost.ofE g.ext (fun _ _ _ x => x) q fun d st1 v H1 hq e1 w1 r q1 => ?_⟩
    clear hq
    split at q1
    · rename_i z
      split at q1
      · rename_i st2 hp
        obtain ⟨sa, g1, g2, g3⟩ := id w1
        obtain ⟨kk, z1, z2, z3⟩ := rowPut_set (sa := sa) hp
        refine ⟨_, row_slot g.pre hr, ra.a, rowV sa st1, j, kk, rfl, rfl, g1, z1, ?_⟩
        rw [rep_int r, z2]
        have u : Ext (isRa (pr X ra)) H1 (upd H1 ra.a (.lst (rowV sa st2))) := Ext.updMt g1 trivial
        have w2 : Row (pr X ra) (upd H1 ra.a (.lst (rowV sa st2))) st2 := ⟨sa, upd_same, by rw [z3]; exact g2.ext u, tabs_upd g3 (.inr ⟨_, g1, trivial⟩)⟩
        exact q1 σ _ ((g.step e1 w1).step u w2)
      · exact q1.elim
    · exact q1.elim
  · exact q.elim
end
/-! ### the law's def -/
section
variable {P : Program} {w : World} {K : PySem.W.Frag} {mg : Str → Option Value} {base : Heap}
def lawE (nN i : Nat) : SE := (List.replicate nN none).set i (some (.sh, .row))
def isTrue : SR → Bool
  | .ok (.rt (.bl true), _) _ => true
  | _ => false
def spLawT (K : PySem.W.Frag) (T : List (Addr × Str)) (ok : List Int → Prop) : Sp := fun vs H Q _ => ∃ (a : Addr) (ns : List Int), vs = [.ref a] ∧ Fz K H a (ns.map V.int) ∧ LamX.Tabs T H ∧ ok ns ∧ ∀ H', Q (.bl true) H'
abbrev spLaw (K : PySem.W.Frag) (ok : List Int → Prop) : Sp := spLawT K [] ok
theorem PSs.any {X : Cx} {ss : List Stmt} {t : Addr → TS} (h : ∀ ra, PSs X ss (t ra)) : PSs X ss (fun N σ H => ∃ ra, t ra N σ H) := ⟨fun pins s σ H D I ⟨ra, q⟩ => (h ra).run pins s σ H D I q⟩
theorem law_fn {x ps0 xr : Str} {st : Stmt} {N : List Str} {k : Nat} {nb : SM} {f : Addr} {fd : FuncData} {ss : List Stmt} {seed : Int} {px p0 p1 p2 p3 p4 : Pos} {c1 c2 c3 : Nat} {ok : List Int → Prop} {i : Nat} {Tb : Tbs} {L : Cx → Nat → Addr → HO} (F : Fun K x x st f fd) (S : FnScope N [ps0] (defScope st))
    (hb0 : defBody st = .Assign [.Name xr px] (.List [.Name ps0 p0, .Constant (.int 0) c1 p1, .Constant (.int seed) c2 p2, .Constant (.int 0) c3 p3] p4) pos :: ss)
    (h0 : N[0]? = some ps0) (hi : N[i]? = some xr) (i0 : i ≠ 0)
    (hbody : ∀ (f : Addr) (cdv : Value) (A : Around) (outer : List Env) (s : Shared) (H : Hp) (E : XK) (ra : RA Tb), ra.L = L (cxOf (L2.CX P w) P w K mg base N x (defScope st) f cdv A outer s H E) → Room k (A.deeper (envOfC x (defScope st) s.heap.objs.size f cdv)) →
      PE (cxOf (L2.CX P w) P w K mg base N x (defScope st) f cdv A outer s H E) (.Name ps0 p0) (tVar 0) ∧
      PS (cxOf (L2.CX P w) P w K mg base N x (defScope st) f cdv A outer s H E) (.Assign [.Name xr px] (.List [.Name ps0 p0, .Constant (.int 0) c1 p1, .Constant (.int seed) c2 p2, .Constant (.int 0) c3 p3] p4) pos) (tAsg (tLst (tCons (tVar 0) (tCons (tC (.int 0)) (tCons (tC (.int seed)) (tCons (tC (.int 0)) tNil))))) (gName i)) ∧
      DSs (cxOf (L2.CX P w) P w K mg base N x (defScope st) f cdv A outer s H E) ra E ss nb)
    (hv : ∀ ns, ok ns → isTrue (nb (lawE N.length i) ⟨ns, 0, seed, 0⟩) = true) : FnOk P w K mg base (L2.CX P w) (k + 1) f fd [ps0] (spLawT K Tb ok) := by
  refine F.okX S (fun vs H Q E h => ?_) (fun cdv A outer s H vs Q E hr h => ?_)
  · obtain ⟨a, ns, rfl, _⟩ := h
    rfl
  · obtain ⟨a, ns, rfl, hF, hT, hok, q⟩ := h
    refine ⟨_, by rw [hb0]; exact pss_cons (hbody f cdv A outer s H E ⟨0, L _⟩ rfl hr).2.1 (PSs.any fun ra => (hbody f cdv A outer s H E ⟨ra, L _⟩ rfl hr).2.2), ?_⟩
    have hl0 : 0 < N.length := (List.getElem?_eq_some_iff.mp h0).1
    have hli : i < N.length := (List.getElem?_eq_some_iff.mp hi).1
    refine ⟨.ref a, rfl, ?_⟩
    refine ⟨(by show 4 ≤ sizeLine; decide), fun ra hra => ⟨ra, upd H ra (.lst [.ref a, .int 0, .int seed, .int 0]), fun b => b = ra, [], lawE N.length i, ⟨ns, 0, seed, 0⟩, ?_, ?_⟩⟩
    · have hrow : Row (pr (cxOf (L2.CX P w) P w K mg base N x (defScope st) f cdv A outer s H E) (⟨ra, L (cxOf (L2.CX P w) P w K mg base N x (defScope st) f cdv A outer s H E)⟩ : RA Tb)) (upd H ra (.lst [.ref a, .int 0, .int seed, .int 0])) ⟨ns, 0, seed, 0⟩ := ⟨a, upd_same, hF.ext (Ext.new (B := fun _ => False) hra), tabs_upd hT (.inl hra)⟩
      have get : ∀ {j : Nat} {kk : Kd} {d : D}, (lawE N.length i)[j]? = some (some (kk, d)) → kk = .sh ∧ d = .row ∧ j = i := fun {j kk d} h => by
        unfold lawE at h
        rcases set_get h with ⟨rfl, e, hl⟩ | ⟨ne, h⟩
        · cases e; exact ⟨rfl, rfl, rfl⟩
        · rw [List.getElem?_replicate] at h
          split at h <;> cases h
      refine ⟨rfl, (fun b z => by rw [show b = ra from z, upd_same]; exact fun z => (nomatch z)), hrow, Ext.refl, fun c z => z.elim, fun j d h => ?_, fun j k d h hk => absurd (get h).1 hk, fun j l k k' d d' b h hk => absurd (get h).1 hk, fun t m => absurd m (by simp), fun t m => absurd m (by simp), ?_⟩
      · obtain ⟨_, rfl, rfl⟩ := get h
        refine ⟨.ref ra, ?_, rfl⟩
        exact List.getElem?_set_self (by unfold L2.start; rw [List.length_append, List.length_map, List.length_replicate]; show j < 1 + (N.length - 1); omega)
      · unfold lawE L2.start
        rw [List.length_set, List.length_replicate, List.length_set, List.length_append, List.length_map, List.length_replicate]
        show N.length ≤ 1 + (N.length - 1)
        omega
    · have hv := hv ns hok
      cases hr : nb (lawE N.length i) ⟨ns, 0, seed, 0⟩ with
      | ok r st1 =>
        rw [hr] at hv
        obtain ⟨fl, ρ⟩ := r
        cases fl with
        | rt d =>
          cases d with
          | bl b =>
            cases b with
            | true =>
              intro v H' e r1 r2
              have ev : v = V.bl true := r2
              subst ev
              exact q H'
            | false => cases hv
          | _ => cases hv
        | _ => cases hv
      | exc c fs st1 => rw [hr] at hv; cases hv
      | stuck => rw [hr] at hv; cases hv
theorem only_fz {H : Hp} {a : Addr} {xs : List V} (o : Only H) (h : SqL K H a xs) : Fz K H a xs := by
  rcases h with (h | ⟨ob, h⟩) | h
  · rcases o a with z | ⟨ob, ys, z⟩
    · rw [z] at h; cases h
    · rw [z] at h; cases h
  · exact .inl ⟨ob, h⟩
  · exact .inr h
theorem cx_closed {H : Hp} {s : Shared} {e : Value} {s' : Shared} (h : L2.CX P w [] H s (fun _ _ _ => False) e s') : False := by
  obtain ⟨_, _, _, _, _, _, _, _, _, _, _, _, z⟩ := h
  exact z.elim
end
end Ev

namespace Ev
open PySem PySem.Spec PyProof.Rows L2

/-! ### one of two readings -/
theorem PE.or {X : Cx} {e : Expr} {t t' : TE} (h : PE X e t) (h' : PE X e t') : PE X e (fun σ H Q => t σ H Q ∨ t' σ H Q) := ⟨fun pins s σ H Q I q => q.elim (h.run pins s σ H Q I) (h'.run pins s σ H Q I)⟩
theorem PI.or {X : Cx} {tg e : Expr} {t t' : TI} (h : PI X tg e t) (h' : PI X tg e t') : PI X tg e (fun σ H Q => t σ H Q ∨ t' σ H Q) := ⟨fun pins s σ H Q I q => q.elim (h.run pins s σ H Q I) (h'.run pins s σ H Q I)⟩
def altR {α : Type} (r r' : Res α) : Res α := match r with
  | .stuck => r'
  | r => r
def cAlt {α : Type} (m m' : EE → DS → Res α) : EE → DS → Res α := fun ρ st => altR (m ρ st) (m' ρ st)
section
variable {X : Cx} {Tb : Tbs} {ra : RA Tb} {E : XK} {e a b : Expr} {es : List Expr} {m m' ma mb : EM} {am am' : AM} {pos p : Pos} {tg : Expr}
theorem Post.alt {α β : Type} {P : Par} {B : Addr → Prop} {H : Hp} {E : XK} {R : Hp → α → β → Prop} {Q : β → Hp → Prop} {r r' : Res α} (h : Post P B H E R Q (altR r r')) : Post P B H E R Q r ∨ Post P B H E R Q r' := by
  cases r with
  | stuck => exact .inr h
  | ok a st => exact .inl h
  | exc c fs st => exact .inl h
theorem de_alt (h : DE X ra E e m) (h' : DE X ra E e m') : DE X ra E e (cAlt m m') :=
  PE.imp (PE.or h h') fun σ H Q ⟨B, ρ, st, p, q⟩ => (Post.alt q).imp (fun q => ⟨B, ρ, st, p, q⟩) fun q => ⟨B, ρ, st, p, q⟩
theorem di_alt (h : DI X ra E tg e am) (h' : DI X ra E tg e am') : DI X ra E tg e (cAlt am am') :=
  PI.imp (PI.or h h') fun σ H Q ⟨B, ρ, st, p, q⟩ => (Post.alt q).imp (fun q => ⟨B, ρ, st, p, q⟩) fun q => ⟨B, ρ, st, p, q⟩
/-- a list or a tuple is walked -/
theorem di_seq (h : DE X ra E e m) : DI X ra E tg e (iSeq m) :=
  PI.imp (PI.or (di_lst h) (di_tup h)) fun σ H R ⟨B, ρ, st, p, q⟩ => by
    cases hr : m ρ st with
    | ok d st1 =>
      unfold iSeq at q
      rw [hr] at q
      cases d with
      | lst xs => exact .inl ⟨B, ρ, st, p, by unfold iLst; rw [hr]; exact q⟩
      | tup xs => exact .inr ⟨B, ρ, st, p, by unfold iTupl; rw [hr]; exact q⟩
      | _ => exact q.elim
    | exc c fs st1 =>
      unfold iSeq at q
      rw [hr] at q
      exact .inl ⟨B, ρ, st, p, by unfold iLst; rw [hr]; exact q⟩
    | stuck =>
      unfold iSeq at q
      rw [hr] at q
      exact q.elim
/-! ### operators on whatever data -/
def xAddL : D → D → Option D
  | .lst xs, .lst ys => if xs.length + ys.length ≤ SZ then some (.lst (xs ++ ys)) else none
  | _, _ => none
theorem o_addL : OpD X ra (binaryOp .Add) xAddL := by
  refine ⟨_, op_cat, fun B H st x y z vx vy Q b d w rx ry e q => ?_⟩
  unfold xAddL at e
  split at e
  · rename_i xs ys
    split at e
    · rename_i hc
      cases e
      obtain ⟨l, vs, rfl, h1, n1, r1⟩ := rx
      obtain ⟨l2, vs2, rfl, h2, n2, r2⟩ := ry
      refine ⟨l, l2, vs, vs2, rfl, rfl, h1, h2, by rw [sz_eq, r1.length, r2.length]; exact hc, fun t ht => ?_⟩
      exact q _ _ (Ext.new ht) (w.new ht) ⟨t, _, rfl, upd_same, fun z => d t z ht, (r1.append r2).ext (Ext.new ht) (sub_ra (P := pr X ra) b)⟩
    · cases e
  · cases e
def xAdd : D → D → Option D := orD xAddI (orD xAddT (orD xAddL xAddS))
theorem o_add : OpD X ra (binaryOp .Add) xAdd := o_addI.or (o_addT.or (o_addL.or o_addS))
def xLtA : D → D → Option D := orD xLtI xLt
def xLeA : D → D → Option D := orD xLeI xLe
def xGtA : D → D → Option D := orD xGtI xGt
def xGeA : D → D → Option D := orD xGeI xGe
theorem o_ltA (hu : X.A.units + 64 < cLine) : OpD X ra (compareOp .Lt) xLtA := o_ltI.or (o_lt hu)
theorem o_leA (hu : X.A.units + 64 < cLine) : OpD X ra (compareOp .LtE) xLeA := o_leI.or (o_le hu)
theorem o_gtA (hu : X.A.units + 64 < cLine) : OpD X ra (compareOp .Gt) xGtA := o_gtI.or (o_gt hu)
theorem o_geA (hu : X.A.units + 64 < cLine) : OpD X ra (compareOp .GtE) xGeA := o_geI.or (o_ge hu)
def xInA (neg : Bool) : D → D → Option D := orD (xInS neg) (xInC neg)
theorem o_inA (hu : X.A.units + 65 < cLine) : OpD X ra (compareOp .In) (xInA false) := (o_in hu).or o_inC
theorem o_notInA (hu : X.A.units + 65 < cLine) : OpD X ra (compareOp .NotIn) (xInA true) := (o_notIn hu).or o_notInC
def xIsB : D → D → Option D
  | .bl a, .bl b => some (.bl (decide (a = b)))
  | _, _ => none
def xNotB : D → D → Option D
  | .bl a, .bl b => some (.bl (!decide (a = b)))
  | _, _ => none
theorem o_isB : OpD X ra (compareOp .Is) xIsB := by
  refine ⟨_, op_isBl, fun B H st x y z vx vy Q b d w rx ry e q => ?_⟩
  unfold xIsB at e
  split at e
  · rename_i i j
    cases e
    exact ⟨i, j, rx, ry, q _ H Ext.refl w rfl⟩
  · cases e
theorem o_notB : OpD X ra (compareOp .IsNot) xNotB := by
  refine ⟨_, op_notBl, fun B H st x y z vx vy Q b d w rx ry e q => ?_⟩
  unfold xNotB at e
  split at e
  · rename_i i j
    cases e
    exact ⟨i, j, rx, ry, q _ H Ext.refl w rfl⟩
  · cases e
def xIsA : D → D → Option D := orD xIsN xIsB
def xNotA : D → D → Option D := orD xNotN xNotB
theorem o_isA : OpD X ra (compareOp .Is) xIsA := o_isN.or o_isB
theorem o_notA : OpD X ra (compareOp .IsNot) xNotA := o_notN.or o_notB
theorem de_ch {op op' : CmpOp} {f g : D → D → Option D} {c : Expr} {mc : EM} (ho : OpD X ra (compareOp op) f) (ho' : OpD X ra (compareOp op') g) (ha : DE X ra E a ma) (hb : DE X ra E b mb) (hc : DE X ra E c mc) (hm : lastMarks [op, op'] [b, c] = false := by with_unfolding_all rfl) : DE X ra E (.Compare a [op, op'] [b, c] pos) (cChain f g ma mb mc) :=
  de_chain ho ho' ha hb hc fun r r' o o' => pe_chain o o' ha hb hc hm
theorem test_of {t : TE} {σ : L2.St} {H : Hp} {Q : Bool → Hp → Prop} (h : tT X ra E (cTest m) σ H Q) (k : ∀ Q, tD X ra E m σ H Q → t σ H Q) : tTest t σ H Q := k _ (tTest_of h)
theorem dt_ch {op op' : CmpOp} {f g : D → D → Option D} {c : Expr} {mc : EM} (ho : OpD X ra (compareOp op) f) (ho' : OpD X ra (compareOp op') g) (ha : DE X ra E a ma) (hb : DE X ra E b mb) (hc : DE X ra E c mc) (hm : lastMarks [op, op'] [b, c] = false := by with_unfolding_all rfl) : DT X ra E (.Compare a [op, op'] [b, c] pos) (cTest (cChain f g ma mb mc)) := by
  obtain ⟨r, o, hr⟩ := ho
  obtain ⟨r', o', hr'⟩ := ho'
  exact PT.imp (pt_chain o o' ha hb hc hm) fun σ H Q h => test_of h fun Q h => chain_of hr hr' h
/-! ### -x -/
/-! ### the empty dict -/
theorem de_dict0 : DE X ra E (.Dict [] [] pos) (cCon (.dic [] [])) :=
  PE.imp pe_dnewK fun σ H Q ⟨B, ρ, st, p, q⟩ => fun d hd => q (.ref d) _ (Ext.new hd) (p.row.new hd) ⟨d, _, [], rfl, upd_same, .inl ⟨rfl, rfl, rfl⟩, p.notB hd, Reps.nil, Reps.nil⟩
end
theorem fnD_stuck {Tb : Tbs} {P : Program} {w : World} {K : PySem.W.Frag} {mg : Str → Option Value} {base : Heap} {x : Str} {st : Stmt} {ps : List Str} {k : Nat} (A0 : DefAt K mg x st)
    (hb : ∀ (kV doc pm : Value) (an : Option Addr) (cdv ct : Value) (us : List Value), us.length = ps.length → bindArgs (PySem.W.fnOf x x (defArgs st) (defBody st) (defScope st) .none kV doc pm an cdv ct) ⟨us, []⟩ = pure (ps.zip us)) : FnD P w K mg base Tb k x ps.length (fun _ _ => .stuck) := by
  obtain ⟨f, fd, F, hm⟩ := A0.ex
  exact ⟨f, fd, ps, ⟨fun vs H Q E h => h.1, fun A outer s H args us vs Q E hr he hb hv hs => by
    obtain ⟨_, _, _, _, _, _, _, _, _, q⟩ := hs
    exact q.elim⟩, hm, F.kp, F.binds hb⟩
theorem hu65 {A : Around} {k : Nat} (hr : Room k A) : A.units + 65 < cLine := by have := hr.un; omega
theorem passX {X : Cx} {E : XK} (tk : Takes X (fun cls d _ H => E cls d H)) : Passes (L2.CX X.prog X.w) X E := passes_call tk (fun _ _ _ _ h => h)
/-- the law's head -/
def okL (n : Nat) (ns : List Int) : Prop := ns.length ≤ n
theorem walk_ev {l : PySem.W.OpenLaw} {n k : Nat} {q : Program} {loose : List Str} {XP : (Str → Option Value) → Heap → Prop} {YP : World → Heap → Prop} {d : DefRec} {K : Params → PySem.W.Frag} {x : Str} (hn : l.most = some n) (hn2 : n ≤ sizeLine) (hdf : d.params.defaults = []) (hr : Room k callerA)
    (hY : ∀ (w : World) (h : Heap), YP w h → (K w.params).In h)
    (F : ∀ (w : World) (mg : Str → Option Value) (fa : Addr) (h : Heap), (K w.params).In h → h.Ns mainGlobals mg → mg d.name = some (.ref fa) →
      ∃ fd : FuncData, (∀ (s : Shared) (u : Value), BindsTo s fd ⟨[u], []⟩ [(x, u)]) ∧ ∀ base : Heap, (K w.params).In base → base.Ns mainGlobals mg → FnOk l.prog w (K w.params) mg base (L2.CX l.prog w) k fa fd [x] (spLaw (K w.params) (okL n))) :
    PySem.W.WalkO q loose XP YP l.row.toRowW d [] (fun f vs => PySem.call f vs) :=
  L2.walk_of (n := n) (k := k) (x := x) (CX := fun w => L2.CX l.prog w) (sp := fun w => spLaw (K w.params) (okL n)) hn hn2 hdf hr hY F (fun w H a ns hl hO hS => ⟨a, ns, rfl, only_fz hO hS, (fun p hp => absurd hp (by simp)), hl, fun _ => rfl⟩) fun w H s e s' h => cx_closed h
end Ev

namespace Ev
open PySem PySem.Spec PyProof.Rows L2

/-! ### evaluation, step by step -/
section
variable {ρ : EE} {st st1 st2 st3 : DS} {x y z d : D} {a b m m' : EM} {ta tb : TM} {am bm : AM} {i j : Int} {k k' : Bool} {xs ys : List D} {ne : EE}
theorem e_var {n : Nat} (h : ρ[n]? = some (some d)) : cVar n ρ st = .ok d st := by unfold cVar; rw [h]
theorem e_con : cCon d ρ st = .ok d st := rfl
theorem e_op {f : D → D → Option D} (ha : a ρ st = .ok x st1) (hb : b ρ st1 = .ok y st2) (hf : f x y = some z) : cOp f a b ρ st = .ok z st2 := by
  unfold cOp; rw [ha]; show (b ρ st1).bind _ = _; rw [hb]; show Res.of (f x y) st2 = _; rw [hf]; rfl
theorem e_tup (h : am ρ st = .ok xs st1) (hl : xs.length ≤ SZ) : cTup am ρ st = .ok (.tup xs) st1 := by
  unfold cTup; rw [h]; show (if _ then _ else _) = _; rw [if_pos hl]
theorem e_lst (h : am ρ st = .ok xs st1) : cLst am ρ st = .ok (.lst xs) st1 := by unfold cLst; rw [h]; rfl
theorem e_lim (h : am ρ st = .ok xs st1) (hl : xs.length ≤ SZ) : cLim am ρ st = .ok xs st1 := by
  unfold cLim; rw [h]; show (if _ then _ else _) = _; rw [if_pos hl]
theorem e_nil : aNil ρ st = .ok [] st := rfl
theorem e_cons (h : a ρ st = .ok x st1) (h' : am ρ st1 = .ok xs st2) : aCons a am ρ st = .ok (x :: xs) st2 := by
  unfold aCons; rw [h]; show (am ρ st1).bind _ = _; rw [h']; rfl
theorem e_blt {f : List D → Option D} (h : am ρ st = .ok xs st1) (hf : f xs = some z) : cBlt f am ρ st = .ok z st1 := by
  unfold cBlt; rw [h]; show Res.of _ _ = _; rw [hf]; rfl
theorem e_fblt {f : List D → Option (List D)} (h : am ρ st = .ok xs st1) (hf : f xs = some ys) : fBlt f am ρ st = .ok ys st1 := by
  unfold fBlt; rw [h]; show Res.of _ _ = _; rw [hf]; rfl
theorem e_call {n : Nat} {F : FM} (h : am ρ st = .ok xs st1) (hl : xs.length = n) (hF : F xs st1 = .ok z st2) : cCallN n F am ρ st = .ok z st2 := by
  unfold cCallN; rw [h]; show (if _ then _ else _) = _; rw [if_pos hl]; exact hF
theorem e_chainT {f g : D → D → Option D} {c : EM} {u v w : D} (ha : a ρ st = .ok x st1) (hb : b ρ st1 = .ok y st2) (hf : f x y = some (.bl true)) (hc : c ρ st2 = .ok z st3) (hg : g y z = some w) : cChain f g a b c ρ st = .ok w st3 := by
  unfold cChain; rw [ha]; show (b ρ st1).bind _ = _; rw [hb]; show (Res.of (f x y) st2).bind _ = _; rw [hf]
  show (c ρ st2).bind _ = _; rw [hc]; show Res.of (g y z) st3 = _; rw [hg]; rfl
theorem e_chainF {f g : D → D → Option D} {c : EM} (ha : a ρ st = .ok x st1) (hb : b ρ st1 = .ok y st2) (hf : f x y = some (.bl false)) : cChain f g a b c ρ st = .ok (.bl false) st2 := by
  unfold cChain; rw [ha]; show (b ρ st1).bind _ = _; rw [hb]; show (Res.of (f x y) st2).bind _ = _; rw [hf]; rfl
theorem e_notV (h : a ρ st = .ok (.bl k) st1) : cNotV a ρ st = .ok (.bl (!k)) st1 := by unfold cNotV; rw [h]; rfl
theorem e_andT (h : a ρ st = .ok (.bl true) st1) (h' : b ρ st1 = .ok z st2) : cAndV a b ρ st = .ok z st2 := by unfold cAndV; rw [h]; exact h'
theorem e_andF (h : a ρ st = .ok (.bl false) st1) : cAndV a b ρ st = .ok (.bl false) st1 := by unfold cAndV; rw [h]; rfl
theorem e_orT (h : a ρ st = .ok (.bl true) st1) : cOrV a b ρ st = .ok (.bl true) st1 := by unfold cOrV; rw [h]; rfl
theorem e_orF (h : a ρ st = .ok (.bl false) st1) (h' : b ρ st1 = .ok z st2) : cOrV a b ρ st = .ok z st2 := by unfold cOrV; rw [h]; exact h'
/-- without a change of the row: and, or of bools -/
theorem e_andB (h : a ρ st = .ok (.bl k) st) (h' : k = true → b ρ st = .ok (.bl k') st) : cAndV a b ρ st = .ok (.bl (k && k')) st := by
  cases k with
  | true => exact e_andT h (h' rfl)
  | false => exact e_andF h
theorem e_orB (h : a ρ st = .ok (.bl k) st) (h' : k = false → b ρ st = .ok (.bl k') st) : cOrV a b ρ st = .ok (.bl (k || k')) st := by
  cases k with
  | true => exact e_orT h
  | false => exact e_orF h (h' rfl)
theorem e_chainB {f g : D → D → Option D} {c : EM} (ha : a ρ st = .ok x st) (hb : b ρ st = .ok y st) (hf : f x y = some (.bl k)) (hc : k = true → c ρ st = .ok z st) (hg : k = true → g y z = some (.bl k')) : cChain f g a b c ρ st = .ok (.bl (k && k')) st := by
  cases k with
  | true => exact e_chainT (u := x) (v := x) ha hb hf (hc rfl) (hg rfl)
  | false => exact e_chainF ha hb hf
theorem e_if {c : TM} {r : Res D} (h : c ρ st = .ok k st1) (h' : (if k = true then a ρ st1 else b ρ st1) = r) : cIf c a b ρ st = r := by unfold cIf; rw [h]; exact h'
theorem e_isi {T : String} (h : m ρ st = .ok d st1) (hT : isiT T d = some k) : cIsi T m ρ st = .ok (.bl k) st1 := by unfold cIsi; rw [h]; show Res.of ((isiT T d).map D.bl) st1 = _; rw [hT]; rfl
theorem e_isi2 {T T' : String} (h : m ρ st = .ok d st1) (hT : isiT T d = some k) (hT' : isiT T' d = some k') : cIsi2 T T' m ρ st = .ok (.bl (k || k')) st1 := by
  unfold cIsi2; rw [h]; show (Res.of (isiT T d) st1).bind _ = _; rw [hT]; show (Res.of (isiT T' d) st1).bind _ = _; rw [hT']; rfl
theorem e_sl {f : D → Option Int → Option Int → Option D} {lo hi : PM} {l u : Option Int} (h : m ρ st = .ok x st1) (hl : lo ρ st1 = .ok l st2) (hu : hi ρ st2 = .ok u st3) (hf : f x l u = some z) : cSl f m lo hi ρ st = .ok z st3 := by
  unfold cSl; rw [h]; show (lo ρ st1).bind _ = _; rw [hl]; show (hi ρ st2).bind _ = _; rw [hu]; show Res.of (f x l u) st3 = _; rw [hf]; rfl
theorem e_no : pNo ρ st = .ok none st := rfl
theorem e_it (h : m ρ st = .ok (.int i) st1) : pIt m ρ st = .ok (some i) st1 := by unfold pIt; rw [h]; rfl
theorem e_add (ha : a ρ st = .ok (.lst xs) st1) (hb : b ρ st1 = .ok (.lst ys) st2) (hl : xs.length + ys.length ≤ SZ) : fAdd a b ρ st = .ok (xs ++ ys) st2 := by
  unfold fAdd; rw [ha]; show (b ρ st1).bind _ = _; rw [hb]; show Res.of (catF xs ys) st2 = _; unfold catF; rw [if_pos hl]; rfl
theorem e_row {n l : Nat} (h : ρ[n]? = some (some .row)) (hz : rowAt l st = some i) : cRow n l ρ st = .ok (.int i) st := by
  unfold cRow isRow; rw [h]; show (match rowAt l st with | some z => _ | none => _) = _; rw [hz]
theorem e_rowLen {n : Nat} (h : ρ[n]? = some (some .row)) : cRowLen n ρ st = .ok (.int st.ns.length) st := by unfold cRowLen isRow; rw [h]; rfl
theorem e_rowCell {n : Nat} (h : ρ[n]? = some (some .row)) (hm : m ρ st = .ok (.int i) st1) (hc : atI st.ns i = some j) : cRowCell n m ρ st = .ok (.int j) st1 := by
  unfold cRowCell isRow; rw [h]; show (m ρ st).bind _ = _; rw [hm]; show (match atI st.ns i with | some c => _ | none => _) = _; rw [hc]
/-! nothing drawn -/
theorem e_op0 {f : D → D → Option D} (ha : a ρ st = .ok x st) (hb : b ρ st = .ok y st) (hf : f x y = some z) : cOp f a b ρ st = .ok z st := e_op ha hb hf
theorem e_cons0 (h : a ρ st = .ok x st) (h' : am ρ st = .ok xs st) : aCons a am ρ st = .ok (x :: xs) st := e_cons h h'
theorem e_blt0 {f : List D → Option D} (h : am ρ st = .ok xs st) (hf : f xs = some z) : cBlt f am ρ st = .ok z st := e_blt h hf
theorem e_fblt0 {f : List D → Option (List D)} (h : am ρ st = .ok xs st) (hf : f xs = some ys) : fBlt f am ρ st = .ok ys st := e_fblt h hf
theorem e_call0 {n : Nat} {F : FM} (h : am ρ st = .ok xs st) (hl : xs.length = n) (hF : F xs st = .ok z st) : cCallN n F am ρ st = .ok z st := e_call h hl hF
theorem e_add0 (ha : a ρ st = .ok (.lst xs) st) (hb : b ρ st = .ok (.lst ys) st) (hl : xs.length + ys.length ≤ SZ) : fAdd a b ρ st = .ok (xs ++ ys) st := e_add ha hb hl
/-! tests -/
theorem t_test (h : m ρ st = .ok (.bl k) st1) : cTest m ρ st = .ok k st1 := by unfold cTest; rw [h]; rfl
theorem t_not (h : ta ρ st = .ok k st1) : cNot ta ρ st = .ok (!k) st1 := by unfold cNot; rw [h]; rfl
theorem t_andT (h : ta ρ st = .ok true st1) (h' : tb ρ st1 = .ok k st2) : cAnd ta tb ρ st = .ok k st2 := by unfold cAnd; rw [h]; exact h'
theorem t_andF (h : ta ρ st = .ok false st1) : cAnd ta tb ρ st = .ok false st1 := by unfold cAnd; rw [h]; rfl
theorem t_orT (h : ta ρ st = .ok true st1) : cOr ta tb ρ st = .ok true st1 := by unfold cOr; rw [h]; rfl
theorem t_orF (h : ta ρ st = .ok false st1) (h' : tb ρ st1 = .ok k st2) : cOr ta tb ρ st = .ok k st2 := by unfold cOr; rw [h]; exact h'
theorem t_andB (h : ta ρ st = .ok k st) (h' : k = true → tb ρ st = .ok k' st) : cAnd ta tb ρ st = .ok (k && k') st := by
  cases k with
  | true => exact t_andT h (h' rfl)
  | false => exact t_andF h
theorem t_orB (h : ta ρ st = .ok k st) (h' : k = false → tb ρ st = .ok k' st) : cOr ta tb ρ st = .ok (k || k') st := by
  cases k with
  | true => exact t_orT h
  | false => exact t_orF h (h' rfl)
theorem t_yes : tYesM ρ st = .ok true st := rfl
/-! walks -/
theorem w_seqL (h : m ρ st = .ok (.lst xs) st1) : iSeq m ρ st = .ok xs st1 := by unfold iSeq; rw [h]; rfl
theorem w_seqT (h : m ρ st = .ok (.tup xs) st1) : iSeq m ρ st = .ok xs st1 := by unfold iSeq; rw [h]; rfl
theorem w_range1 (h : am ρ st = .ok [.int j] st1) (hj : -(2 ^ 62) ≤ j ∧ j < 2 ^ 62) : iRange1 am ρ st = .ok (rangeD 0 j) st1 := by
  unfold iRange1; rw [h]; show (if _ then _ else _) = _; rw [if_pos hj]
theorem w_range2 (h : am ρ st = .ok [.int i, .int j] st1) (hj : -(2 ^ 62) ≤ i ∧ i < 2 ^ 62 ∧ -(2 ^ 62) ≤ j ∧ j < 2 ^ 62) : iRange2 am ρ st = .ok (rangeD i j) st1 := by
  unfold iRange2; rw [h]; show (if _ then _ else _) = _; rw [if_pos hj]
theorem w_zipT (h : am ρ st = .ok [.tup xs, .tup ys] st1) : iZipM am ρ st = .ok (zipD xs ys) st1 := by unfold iZipM; rw [h]; rfl
theorem w_zipL (h : am ρ st = .ok [.lst xs, .lst ys] st1) : iZipM am ρ st = .ok (zipD xs ys) st1 := by unfold iZipM; rw [h]; rfl
theorem w_comp {vs : List Nat} {t : Tg} {it : AM} {tt : TM} {te : EM} {r : Res (List D)} (h : it ρ st = .ok xs st1) (hl : xs.length ≤ SZ) (hc : compL vs t tt te ρ xs st1 = r) : fComp vs t it tt te ρ st = r := by
  unfold fComp; rw [h]; show (if _ then _ else _) = _; rw [if_pos hl]; exact hc
/-- a comprehension that draws nothing -/
theorem compL_map {vs : List Nat} {t : Tg} {tt : TM} {te : EM} {p : D → Bool} {g : D → D} : ∀ (xs : List D), (∀ d ∈ xs, ∃ ρ', bindE t d (wipeE ρ vs) = some ρ' ∧ tt ρ' st = .ok (p d) st ∧ (p d = true → te ρ' st = .ok (g d) st)) → compL vs t tt te ρ xs st = .ok ((xs.filter p).map g) st
  | [], _ => rfl
  | d :: ds, h => by
    obtain ⟨ρ', h1, h2, h3⟩ := h d List.mem_cons_self
    have ih := compL_map (vs := vs) (t := t) (tt := tt) (te := te) (p := p) (g := g) ds fun d' hd => h d' (List.mem_cons_of_mem _ hd)
    unfold compL
    rw [h1]
    show ((tt ρ' st).noX.bind _) = _
    rw [h2]
    show (if p d = true then _ else _) = _
    cases hp : p d with
    | true =>
      rw [if_pos rfl, h3 hp]
      show (compL vs t tt te ρ ds st).bind _ = _
      rw [ih, List.filter_cons_of_pos hp]
      rfl
    | false =>
      rw [if_neg Bool.false_ne_true, ih, List.filter_cons_of_neg (by rw [hp]; exact Bool.false_ne_true)]
end
/-! statements -/
section
variable {ρ ρ' : SE} {st st1 st2 : DS} {d : D} {n n' : SM} {c : TM} {m : EM} {am : AM} {gm : GM} {r : SR} {k : Bool} {xs : List D}
theorem s_seq (h : n ρ st = .ok (.nx, ρ') st1) (h' : n' ρ' st1 = r) : sSeq n n' ρ st = r := by unfold sSeq; rw [h]; exact h'
theorem s_seqR (h : n ρ st = .ok (.rt d, ρ') st1) : sSeq n n' ρ st = .ok (.rt d, ρ') st1 := by unfold sSeq; rw [h]; rfl
theorem s_if (h : c (er ρ) st = .ok k st1) (h' : (if k = true then n ρ st1 else n' ρ st1) = r) : sIf c n n' ρ st = r := by unfold sIf; rw [h]; exact h'
theorem s_ifT (h : c (er ρ) st = .ok k st1) (hk : k = true) (h' : n ρ st1 = r) : sIf c n n' ρ st = r := s_if h (by rw [hk]; exact h')
theorem s_ifF (h : c (er ρ) st = .ok k st1) (hk : k = false) (h' : n' ρ st1 = r) : sIf c n n' ρ st = r := s_if h (by rw [hk]; exact h')
theorem s_nop : sNop ρ st = .ok (.nx, ρ) st := rfl
theorem s_ret (h : m (er ρ) st = .ok d st1) : sRet m ρ st = .ok (.rt d, ρ) st1 := by unfold sRet; rw [h]; rfl
theorem s_expr (h : m (er ρ) st = .ok d st1) : sExpr m ρ st = .ok (.nx, ρ) st1 := by unfold sExpr; rw [h]; rfl
theorem s_setS {i : Nat} (h : m (erS ρ) st = .ok d st1) (hn : notLent ρ i = true) : sSetS i m ρ st = .ok (.nx, ρ.set i (some (.sh, d))) st1 := by unfold sSetS; rw [h]; show (if _ then _ else _) = _; rw [if_pos hn]
theorem s_set {i : Nat} (h : m (er ρ) st = .ok d st1) (hn : d.pure = true ∧ notLent ρ i = true) : sSet i m ρ st = .ok (.nx, ρ.set i (some (.sh, d))) st1 := by unfold sSet; rw [h]; show (if _ then _ else _) = _; rw [if_pos hn]
theorem s_own {i : Nat} (h : am (er ρ) st = .ok xs st1) (hn : D.pures xs = true ∧ notLent ρ i = true) : sOwn i am ρ st = .ok (.nx, ρ.set i (some (.own, .lst xs))) st1 := by unfold sOwn; rw [h]; show (if _ then _ else _) = _; rw [if_pos hn]
theorem s_row {i j : Nat} {z : Int} (h : (er ρ)[i]? = some (some .row)) (hm : m (er ρ) st = .ok (.int z) st1) (hp : rowPut j z st1 = some st2) : sRow i j m ρ st = .ok (.nx, ρ) st2 := by
  unfold sRow isRow; rw [h]; show (m (er ρ) st).bind _ = _; rw [hm]; show (match rowPut j z st1 with | some st2 => _ | none => _) = _; rw [hp]
theorem s_exprG {d : D} (h : gm ρ st = .ok (d, ρ') st1) : sExprG gm ρ st = .ok (.nx, ρ') st1 := by unfold sExprG; rw [h]; rfl
theorem g_sh (h : m (erS ρ) st = .ok d st1) : gSh m ρ st = .ok (d, ρ) st1 := by unfold gSh; rw [h]; rfl
theorem g_pure (h : m (er ρ) st = .ok d st1) (hp : d.pure = true) : gPure m ρ st = .ok (d, ρ) st1 := by unfold gPure; rw [h]; show (if _ then _ else _) = _; rw [if_pos hp]
theorem g_append {i : Nat} {zs : List D} (h0 : ρ[i]? = some (some (.own, .lst zs))) (h : gm ρ st = .ok (d, ρ') st1) (h1 : ρ'[i]? = some (some (.own, .lst xs))) (hl : xs.length < SZ) : gAppend i gm ρ st = .ok (.non, ρ'.set i (some (.own, .lst (xs ++ [d])))) st1 := by
  unfold gAppend; rw [h0]; show (gm ρ st).bind _ = _; rw [h]; show (match ρ'[i]? with | some (some (.own, .lst xs)) => _ | _ => _) = _; rw [h1]; show (if _ then _ else _) = _; rw [if_pos hl]
theorem s_unp {t : Tg} {ρ2 : SE} (h : gm ρ st = .ok (d, ρ') st1) (hb : bindSE t d ρ' = some ρ2) : sUnp t gm ρ st = .ok (.nx, ρ2) st1 := by unfold sUnp; rw [h]; show (match bindSE t d ρ' with | some ρ' => _ | none => _) = _; rw [hb]
theorem s_par {is : List Nat} {xm : XM} {l : List (Kd × D)} (h : xm ρ st = .ok l st1) (hc : is.length = l.length ∧ okK l = true ∧ is.all (notLent ρ) = true) : sPar is xm ρ st = .ok (.nx, setAll ρ (is.zip l)) st1 := by
  unfold sPar; rw [h]; show (if _ then _ else _) = _; rw [if_pos hc]
theorem x_nil : xNil ρ st = .ok [] st := rfl
theorem x_S {r : XM} {l : List (Kd × D)} (h : m (erS ρ) st = .ok d st1) (h' : r ρ st1 = .ok l st2) : xS m r ρ st = .ok ((.sh, d) :: l) st2 := by unfold xS; rw [h]; show (r ρ st1).bind _ = _; rw [h']; rfl
theorem x_P {r : XM} {l : List (Kd × D)} (h : m (er ρ) st = .ok d st1) (hp : d.pure = true) (h' : r ρ st1 = .ok l st2) : xP m r ρ st = .ok ((.sh, d) :: l) st2 := by unfold xP; rw [h]; show (if _ then _ else _) = _; rw [if_pos hp, h']; rfl
theorem x_O {r : XM} {l : List (Kd × D)} (h : am (er ρ) st = .ok xs st1) (hp : D.pures xs = true) (h' : r ρ st1 = .ok l st2) : xO am r ρ st = .ok ((.own, .lst xs) :: l) st2 := by unfold xO; rw [h]; show (if _ then _ else _) = _; rw [if_pos hp, h']; rfl
theorem s_for0 {it : AM} {t : Tg} (h : it (er ρ) st = .ok xs st1) (hp : D.pures xs = true) (h' : forL t n xs ρ st1 = r) : sFor0 it t n ρ st = r := by unfold sFor0; rw [h]; show (if _ then _ else _) = _; rw [if_pos hp]; exact h'
theorem s_for {ls : List Nat} {it : AM} {t : Tg} (h : it (erL (setK .lent (ls.filter (kOwn ρ)) ρ)) st = .ok xs st1) (hp : D.pures xs = true ∨ lents (setK .lent (ls.filter (kOwn ρ)) ρ) = []) (h' : (forL t n xs (setK .lent (ls.filter (kOwn ρ)) ρ) st1).bind (fin (ls.filter (kOwn ρ))) = r) : sFor ls it t n ρ st = r := by
  unfold sFor; rw [h]; show (if _ then _ else _) = _; rw [if_pos hp]; exact h'
/-- a for that goes through -/
theorem forL_inv {t : Tg} {nb : SM} (I : Nat → SE → DS → Prop) {ds : List D} (h : ∀ (i : Nat) (d : D) (ρ : SE) (st : DS), ds[i]? = some d → I i ρ st → ∃ ρ1 ρ2 st2 fl, bindSE t d ρ = some ρ1 ∧ nb ρ1 st = .ok (fl, ρ2) st2 ∧ (fl = .nx ∨ fl = .ct) ∧ I (i + 1) ρ2 st2) :
    ∀ (k : Nat) (ρ : SE) (st : DS), k ≤ ds.length → I k ρ st → ∃ ρ' st', forL t nb (ds.drop k) ρ st = .ok (.nx, ρ') st' ∧ I ds.length ρ' st' := by
  intro k
  induction hk : ds.length - k generalizing k with
  | zero =>
    intro ρ st hl hi
    have e : k = ds.length := by omega
    subst e
    rw [List.drop_length]
    exact ⟨ρ, st, rfl, hi⟩
  | succ q ih =>
    intro ρ st hl hi
    have hlt : k < ds.length := by omega
    obtain ⟨ρ1, ρ2, st2, fl, h1, h2, h3, h4⟩ := h k ds[k] ρ st (List.getElem?_eq_getElem hlt) hi
    obtain ⟨ρ', st', e1, e2⟩ := ih (k + 1) (by omega) ρ2 st2 (by omega) h4
    refine ⟨ρ', st', ?_, e2⟩
    rw [List.drop_eq_getElem_cons hlt]
    unfold forL
    rw [h1]
    show (nb ρ1 st).bind _ = _
    rw [h2]
    rcases h3 with rfl | rfl
    · exact e1
    · exact e1
theorem f_run {nN : Nat} {nb : SM} {ds : List D} {fl : Flo} (h : nb (startE nN ds) st = .ok (fl, ρ') st1) (hd : fl = .rt d ∨ (fl = .nx ∧ d = .non)) : runB nN nb ds st = .ok d st1 := by
  unfold runB; rw [h]
  rcases hd with rfl | ⟨rfl, rfl⟩
  · rfl
  · rfl
theorem f_rt {nN : Nat} {nb : SM} {ds : List D} (h : ∃ ρ', nb (startE nN ds) st = .ok (.rt d, ρ') st1) : runB nN nb ds st = .ok d st1 := by
  obtain ⟨ρ', h⟩ := h
  exact f_run h (.inl rfl)
/-! the whole of a def, forward -/
def retD : SR → Res D
  | .ok (.rt d, _) st => .ok d st
  | .ok (.nx, _) st => .ok .non st
  | .ok (_, _) _ => .stuck
  | .exc c fs st => .exc c fs st
  | .stuck => .stuck
theorem f_ret {nN : Nat} {nb : SM} {ds : List D} {R : Res D} (h : retD (nb (startE nN ds) st) = R) : runB nN nb ds st = R := by
  rw [← h]
  unfold runB
  cases nb (startE nN ds) st with
  | ok r st1 =>
    obtain ⟨f, ρ⟩ := r
    cases f <;> rfl
  | exc c fs st1 => rfl
  | stuck => rfl
variable {R : Res D} {a b n2 : SM}
theorem q_nop (h : retD (n ρ st) = R) : retD (sSeq sNop n ρ st) = R := h
theorem sSeq_assoc : sSeq (sSeq a b) n ρ st = sSeq a (sSeq b n) ρ st := by
  unfold sSeq
  cases a ρ st with
  | ok r st1 =>
    obtain ⟨f, ρ'⟩ := r
    cases f <;> rfl
  | exc c fs st1 => rfl
  | stuck => rfl
theorem q_seq (h : retD (sSeq a (sSeq b n) ρ st) = R) : retD (sSeq (sSeq a b) n ρ st) = R := by rw [sSeq_assoc]; exact h
theorem q_ret (h : m (er ρ) st = .ok d st1) : retD (sRet m ρ st) = .ok d st1 := by rw [s_ret h]; rfl
theorem q_retS (h : m (er ρ) st = .ok d st1) : retD (sSeq (sRet m) n ρ st) = .ok d st1 := by rw [s_seqR (s_ret h)]; rfl
theorem q_end : retD (sNop ρ st) = .ok .non st := rfl
theorem q_last (h : n ρ st = .ok (.nx, ρ') st1) : retD (n ρ st) = .ok .non st1 := by rw [h]; rfl
theorem q_step (h : n ρ st = .ok (.nx, ρ') st1) (h' : retD (n' ρ' st1) = R) : retD (sSeq n n' ρ st) = R := by rw [s_seq h rfl]; exact h'
theorem q_if (h : c (er ρ) st = .ok k st1) (h' : retD ((if k = true then n ρ st1 else n' ρ st1)) = R) : retD (sIf c n n' ρ st) = R := by rw [s_if h rfl]; exact h'
theorem q_ifT (h : c (er ρ) st = .ok k st1) (hk : k = true) (h' : retD (n ρ st1) = R) : retD (sIf c n n' ρ st) = R := by rw [s_ifT h hk rfl]; exact h'
theorem q_ifF (h : c (er ρ) st = .ok k st1) (hk : k = false) (h' : retD (n' ρ st1) = R) : retD (sIf c n n' ρ st) = R := by rw [s_ifF h hk rfl]; exact h'
theorem sSeq_if (h : c (er ρ) st = .ok k st1) : sSeq (sIf c n n') n2 ρ st = if k = true then sSeq n n2 ρ st1 else sSeq n' n2 ρ st1 := by
  unfold sSeq sIf
  rw [h]
  cases k <;> rfl
theorem q_ifST (h : c (er ρ) st = .ok k st1) (hk : k = true) (h' : retD (sSeq n n2 ρ st1) = R) : retD (sSeq (sIf c n n') n2 ρ st) = R := by rw [sSeq_if h, hk]; exact h'
theorem q_ifSF (h : c (er ρ) st = .ok k st1) (hk : k = false) (h' : retD (sSeq n' n2 ρ st1) = R) : retD (sSeq (sIf c n n') n2 ρ st) = R := by rw [sSeq_if h, hk]; exact h'
theorem q_if2 (h : c (er ρ) st = .ok k st1) (h' : (k = true ∧ retD (n ρ st1) = R) ∨ (k = false ∧ retD (n' ρ st1) = R)) : retD (sIf c n n' ρ st) = R := h'.elim (fun z => q_ifT h z.1 z.2) fun z => q_ifF h z.1 z.2
theorem q_ifS2 (h : c (er ρ) st = .ok k st1) (h' : (k = true ∧ retD (sSeq n n2 ρ st1) = R) ∨ (k = false ∧ retD (sSeq n' n2 ρ st1) = R)) : retD (sSeq (sIf c n n') n2 ρ st) = R := h'.elim (fun z => q_ifST h z.1 z.2) fun z => q_ifSF h z.1 z.2
theorem q_if0 (h : c (er ρ) st = .ok k st) (h' : (k = true ∧ retD (n ρ st) = R) ∨ (k = false ∧ retD (n' ρ st) = R)) : retD (sIf c n n' ρ st) = R := q_if2 h h'
theorem q_ifS0 (h : c (er ρ) st = .ok k st) (h' : (k = true ∧ retD (sSeq n n2 ρ st) = R) ∨ (k = false ∧ retD (sSeq n' n2 ρ st) = R)) : retD (sSeq (sIf c n n') n2 ρ st) = R := q_ifS2 h h'
theorem q_setS0 {i : Nat} (h : m (erS ρ) st = .ok d st) (hn : notLent ρ i = true) (h' : retD (n ((ρ.set i (some (.sh, d)))) st) = R) : retD (sSeq (sSetS i m) n ρ st) = R := q_step (s_setS h hn) h'
theorem q_expr0 (h : m (er ρ) st = .ok d st) (h' : retD (n ρ st) = R) : retD (sSeq (sExpr m) n ρ st) = R := q_step (s_expr h) h'
end
/-! ### operators on ints -/
section
variable {i j : Int} {x y z : D}
theorem x_addI : xAdd (.int i) (.int j) = some (.int (i + j)) := rfl
theorem x_sub : xSub (.int i) (.int j) = some (.int (i - j)) := rfl
theorem x_gtI : xGtA (.int i) (.int j) = some (.bl (decide (j < i))) := rfl
theorem x_ltI : xLtA (.int i) (.int j) = some (.bl (decide (i < j))) := rfl
theorem x_geI : xGeA (.int i) (.int j) = some (.bl (decide (j ≤ i))) := rfl
theorem x_leI : xLeA (.int i) (.int j) = some (.bl (decide (i ≤ j))) := rfl
theorem x_mod (h : 0 < j) : xMod (.int i) (.int j) = some (.int (i % j)) := by show (if _ then _ else _) = _; rw [if_pos h]
theorem x_div (h : CDiv i j) : xDiv (.int i) (.int j) = some (.int (i / j)) := by show (if _ then _ else _) = _; rw [if_pos h]
theorem x_mul (h : CMul i j) : xMulI (.int i) (.int j) = some (.int (i * j)) := by show (if _ then _ else _) = _; rw [if_pos h]
theorem x_int : xInt [.int i] = some (.int i) := rfl
theorem x_isiI : isiT "int" (.int i) = some true := rfl
end
end Ev

namespace Ev
open PySem PySem.Spec PyProof.Rows L2

/-! ### data without bools, None: equal as Python tells it exactly if the same -/
mutual
def D.nb : Nat → D → Bool
  | _, .int _ => true
  | _, .str x => PyData.strOk x
  | k + 1, .tup xs => D.nbs k xs
  | k + 1, .lst xs => D.nbs k xs
  | _, _ => false
def D.nbs : Nat → List D → Bool
  | _, [] => true
  | k, d :: ds => D.nb k d && D.nbs k ds
end
mutual
theorem nb_eqv : ∀ (k l : Nat) (d e : D), d.nb k = true → e.nb l = true → (PyData.eqv d.py e.py = true ↔ d = e)
  | _, _, .int i, .int j, _, _ => by simp [D.py, PyData.eqv]
  | _, _, .int i, .str j, _, _ => by simp [D.py, PyData.eqv]
  | _, _, .str i, .int j, _, _ => by simp [D.py, PyData.eqv]
  | _, _, .str i, .str j, _, _ => by simp [D.py, PyData.eqv]
  | _, _, .int i, .tup j, _, _ => by simp [D.py, PyData.eqv]
  | _, _, .int i, .lst j, _, _ => by simp [D.py, PyData.eqv]
  | _, _, .str i, .tup j, _, _ => by simp [D.py, PyData.eqv]
  | _, _, .str i, .lst j, _, _ => by simp [D.py, PyData.eqv]
  | _, _, .tup i, .int j, _, _ => by simp [D.py, PyData.eqv]
  | _, _, .tup i, .str j, _, _ => by simp [D.py, PyData.eqv]
  | _, _, .tup i, .lst j, _, _ => by simp [D.py, PyData.eqv]
  | _, _, .lst i, .int j, _, _ => by simp [D.py, PyData.eqv]
  | _, _, .lst i, .str j, _, _ => by simp [D.py, PyData.eqv]
  | _, _, .lst i, .tup j, _, _ => by simp [D.py, PyData.eqv]
  | k + 1, l + 1, .tup xs, .tup ys, h1, h2 => by
    have h1 : D.nbs k xs = true := h1
    have h2 : D.nbs l ys = true := h2
    rw [D.py, D.py, PyData.eqv, nbs_eqv k l xs ys h1 h2, D.tup.injEq]
  | k + 1, l + 1, .lst xs, .lst ys, h1, h2 => by
    have h1 : D.nbs k xs = true := h1
    have h2 : D.nbs l ys = true := h2
    rw [D.py, D.py, PyData.eqv, nbs_eqv k l xs ys h1 h2, D.lst.injEq]
theorem nbs_eqv : ∀ (k l : Nat) (d e : List D), D.nbs k d = true → D.nbs l e = true → (PyData.eqvAll (D.pys d) (D.pys e) = true ↔ d = e)
  | _, _, [], [], _, _ => by simp [D.pys, PyData.eqvAll]
  | _, _, [], _ :: _, _, _ => by simp [D.pys, PyData.eqvAll]
  | _, _, _ :: _, [], _, _ => by simp [D.pys, PyData.eqvAll]
  | k, l, x :: xs, y :: ys, h1, h2 => by
    have h1 : x.nb k = true ∧ D.nbs k xs = true := by simpa [D.nbs] using h1
    have h2 : y.nb l = true ∧ D.nbs l ys = true := by simpa [D.nbs] using h2
    rw [D.pys, D.pys, PyData.eqvAll, Bool.and_eq_true, nb_eqv k l x y h1.1 h2.1, nbs_eqv k l xs ys h1.2 h2.2, List.cons.injEq]
end
mutual
theorem nb_plain : ∀ (k : Nat) (d : D), d.nb k = true → d.plain = true ∧ d.py.canLay0 = true ∧ d.py.depth ≤ k
  | _, .int _, _ => ⟨rfl, by simp [D.py, PyData.canLay0], by simp [D.py, PyData.depth]⟩
  | _, .str x, h => by
    have h : PyData.strOk x = true := by simpa [D.nb] using h
    exact ⟨rfl, by simp [D.py, PyData.canLay0, h], by simp [D.py, PyData.depth]⟩
  | k + 1, .tup xs, h => by
    have h1 := nbs_plain k xs h
    exact ⟨h1.1, by rw [D.py, PyData.canLay0]; exact h1.2.1, by rw [D.py, PyData.depth]; exact Nat.succ_le_succ h1.2.2⟩
  | k + 1, .lst xs, h => by
    have h1 := nbs_plain k xs h
    exact ⟨h1.1, by rw [D.py, PyData.canLay0]; exact h1.2.1, by rw [D.py, PyData.depth]; exact Nat.succ_le_succ h1.2.2⟩
theorem nbs_plain : ∀ (k : Nat) (d : List D), D.nbs k d = true → D.plains d = true ∧ PyData.canLayAll0 (D.pys d) = true ∧ PyData.depthAll (D.pys d) ≤ k
  | _, [], _ => ⟨rfl, by simp [D.pys, PyData.canLayAll0], by simp [D.pys, PyData.depthAll]⟩
  | k, x :: xs, h => by
    have h : x.nb k = true ∧ D.nbs k xs = true := by simpa [D.nbs] using h
    have h1 := nb_plain k x h.1
    have h2 := nbs_plain k xs h.2
    refine ⟨?_, ?_, ?_⟩
    · show (x.plain && D.plains xs) = true
      rw [h1.1, h2.1]; rfl
    · rw [D.pys, PyData.canLayAll0, h1.2.1, h2.2.1]; rfl
    · rw [D.pys, PyData.depthAll]
      exact Nat.max_le.mpr ⟨h1.2.2, h2.2.2⟩
end
theorem nb_shaped {k : Nat} {d : D} (h : d.nb k = true) (hk : k ≤ 64) : SeqAt.shaped d.py = true := by
  obtain ⟨_, h1, h2⟩ := nb_plain k d h
  unfold SeqAt.shaped
  rw [h1, decide_eq_true (by omega)]
  rfl
open Classical in
theorem x_eq {k l : Nat} {d e : D} (h : d.nb k = true) (h' : e.nb l = true) (hk : k ≤ 64) (hl : l ≤ 64) : xEq d e = some (.bl (decide (d = e))) := by
  unfold xEq
  rw [(nb_plain k d h).1, (nb_plain l e h').1, nb_shaped h hk, nb_shaped h' hl]
  show some (D.bl (PyData.eqv d.py e.py)) = _
  congr 2
  rw [Bool.eq_iff_iff, nb_eqv k l d e h h', decide_eq_true_iff]
open Classical in
theorem x_ne {k l : Nat} {d e : D} (h : d.nb k = true) (h' : e.nb l = true) (hk : k ≤ 64) (hl : l ≤ 64) : xNe d e = some (.bl (!decide (d = e))) := by
  unfold xNe
  rw [(nb_plain k d h).1, (nb_plain l e h').1, nb_shaped h hk, nb_shaped h' hl]
  show some (D.bl (!PyData.eqv d.py e.py)) = _
  congr 3
  rw [Bool.eq_iff_iff, nb_eqv k l d e h h', decide_eq_true_iff]
theorem any_nb {k l : Nat} : ∀ {ys : List D} {x : D}, D.nbs k ys = true → x.nb l = true → (((D.pys ys).any fun z => PyData.eqv z x.py) = true ↔ x ∈ ys)
  | [], _, _, _ => by simp [D.pys]
  | y :: ys, x, h, hx => by
    have h : y.nb k = true ∧ D.nbs k ys = true := by simpa [D.nbs] using h
    rw [D.pys, List.any_cons, Bool.or_eq_true, any_nb h.2 hx, nb_eqv k l y x h.1 hx, List.mem_cons, eq_comm]
open Classical in
theorem x_inT {k l : Nat} {neg : Bool} {ys : List D} {x : D} (h : D.nbs k ys = true) (hx : x.nb l = true) (hk : k ≤ 63) (hl : l ≤ 64) : xInA neg x (.tup ys) = some (.bl (neg ^^ decide (x ∈ ys))) := by
  have hT : (D.tup ys).nb (k + 1) = true := h
  have e : xInS neg x (.tup ys) = some (.bl (neg ^^ decide (x ∈ ys))) := by
    show (if (x.plain && SeqAt.shaped x.py && (D.tup ys).plain && SeqAt.shaped (D.tup ys).py) = true then some (D.bl (neg ^^ (D.pys ys).any fun z => PyData.eqv z x.py)) else none) = _
    rw [(nb_plain l x hx).1, (nb_plain _ _ hT).1, nb_shaped hx hl, nb_shaped hT (by omega)]
    show some (D.bl _) = _
    congr 3
    rw [Bool.eq_iff_iff, any_nb h hx, decide_eq_true_iff]
  unfold xInA orD
  rw [e]
open Classical in
theorem x_inL {k l : Nat} {neg : Bool} {ys : List D} {x : D} (h : D.nbs k ys = true) (hx : x.nb l = true) (hk : k ≤ 63) (hl : l ≤ 64) : xInA neg x (.lst ys) = some (.bl (neg ^^ decide (x ∈ ys))) := by
  have hT : (D.lst ys).nb (k + 1) = true := h
  have e : xInS neg x (.lst ys) = some (.bl (neg ^^ decide (x ∈ ys))) := by
    show (if (x.plain && SeqAt.shaped x.py && (D.lst ys).plain && SeqAt.shaped (D.lst ys).py) = true then some (D.bl (neg ^^ (D.pys ys).any fun z => PyData.eqv z x.py)) else none) = _
    rw [(nb_plain l x hx).1, (nb_plain _ _ hT).1, nb_shaped hx hl, nb_shaped hT (by omega)]
    show some (D.bl _) = _
    congr 3
    rw [Bool.eq_iff_iff, any_nb h hx, decide_eq_true_iff]
  unfold xInA orD
  rw [e]
theorem nbs_map {α : Type} {k : Nat} {f : α → D} : ∀ {l : List α}, (∀ a ∈ l, (f a).nb k = true) → D.nbs k (l.map f) = true
  | [], _ => rfl
  | a :: l, h => by
    show (D.nb k (f a) && D.nbs k (l.map f)) = true
    rw [h a List.mem_cons_self, nbs_map fun b hb => h b (List.mem_cons_of_mem _ hb)]
    rfl
theorem pures_map {α : Type} {f : α → D} : ∀ {l : List α}, (∀ a ∈ l, (f a).pure = true) → D.pures (l.map f) = true
  | [], _ => rfl
  | a :: l, h => by
    show ((f a).pure && D.pures (l.map f)) = true
    rw [h a List.mem_cons_self, pures_map fun b hb => h b (List.mem_cons_of_mem _ hb)]
    rfl
/-! ### pairs of persons -/
def nD (n : Nat) : D := .int n
def pD (p : Nat × Nat) : D := .tup [nD p.1, nD p.2]
theorem pD_inj {p q : Nat × Nat} : pD p = pD q ↔ p = q := by
  obtain ⟨a, b⟩ := p
  obtain ⟨c, d⟩ := q
  simp only [pD, nD, D.tup.injEq, List.cons.injEq, D.int.injEq, Int.ofNat_inj, Prod.mk.injEq, and_true]
theorem nD_inj {a b : Nat} : nD a = nD b ↔ a = b := by simp only [nD, D.int.injEq, Int.ofNat_inj]
theorem nb_p (p : Nat × Nat) : (pD p).nb 1 = true := rfl
theorem nb_n (a : Nat) : (nD a).nb 0 = true := rfl
theorem nb_ps (ps : List (Nat × Nat)) : D.nbs 1 (ps.map pD) = true := nbs_map fun a _ => nb_p a
theorem nb_ns (ps : List Nat) : D.nbs 0 (ps.map nD) = true := nbs_map fun a _ => nb_n a
theorem mem_ps {p : Nat × Nat} {ps : List (Nat × Nat)} : pD p ∈ ps.map pD ↔ p ∈ ps := by
  rw [List.mem_map]
  exact ⟨fun ⟨a, h, e⟩ => by rw [pD_inj] at e; rw [← e]; exact h, fun h => ⟨p, h, rfl⟩⟩
theorem mem_ns {p : Nat} {ps : List Nat} : nD p ∈ ps.map nD ↔ p ∈ ps := by
  rw [List.mem_map]
  exact ⟨fun ⟨a, h, e⟩ => by rw [nD_inj] at e; rw [← e]; exact h, fun h => ⟨p, h, rfl⟩⟩
theorem in_ps (neg : Bool) (ps : List (Nat × Nat)) (p : Nat × Nat) : xInA neg (pD p) (.tup (ps.map pD)) = some (.bl (neg ^^ decide (p ∈ ps))) := by
  rw [x_inT (nb_ps ps) (nb_p p) (by decide) (by decide)]
  congr 3
  rw [Bool.eq_iff_iff]
  simp [mem_ps]
theorem in_lps (neg : Bool) (ps : List (Nat × Nat)) (p : Nat × Nat) : xInA neg (pD p) (.lst (ps.map pD)) = some (.bl (neg ^^ decide (p ∈ ps))) := by
  rw [x_inL (nb_ps ps) (nb_p p) (by decide) (by decide)]
  congr 3
  rw [Bool.eq_iff_iff]
  simp [mem_ps]
theorem in_lns (neg : Bool) (ps : List Nat) (p : Nat) : xInA neg (nD p) (.lst (ps.map nD)) = some (.bl (neg ^^ decide (p ∈ ps))) := by
  rw [x_inL (nb_ns ps) (nb_n p) (by decide) (by decide)]
  congr 3
  rw [Bool.eq_iff_iff]
  simp [mem_ns]
/-! the order of pairs -/
theorem lt_p (p q : Nat × Nat) : PySem.W.dataLt (pD p).py (pD q).py = decide (p.1 < q.1 ∨ (p.1 = q.1 ∧ p.2 < q.2)) := by
  obtain ⟨a, b⟩ := p
  obtain ⟨c, d⟩ := q
  show PyProof.Rows.lexLt itemOrd [.inl 1, .inl (a : Int), .inl 1, .inl (b : Int), .inl 0] [.inl 1, .inl (c : Int), .inl 1, .inl (d : Int), .inl 0] = _
  rw [Bool.eq_iff_iff, decide_eq_true_iff]
  simp only [PyProof.Rows.lex_cons]
  show ((decide ((1 : Int) < 1) || (!decide ((1 : Int) < 1) && (decide ((a : Int) < c) || (!decide ((c : Int) < a) && (decide ((1 : Int) < 1) || (!decide ((1 : Int) < 1) && (decide ((b : Int) < d) || (!decide ((d : Int) < b) && (decide ((0 : Int) < 0) || (!decide ((0 : Int) < 0) && false))))))))))) = true ↔ _
  simp
  omega
/-! ### all pairs of n persons, in order -/
def pairsN (n : Nat) : List (Nat × Nat) := (List.range n).flatMap fun x => ((List.range n).filter fun y => decide (x < y)).map fun y => (x, y)
def ltP (p q : Nat × Nat) : Prop := p.1 < q.1 ∨ (p.1 = q.1 ∧ p.2 < q.2)
theorem mem_pairsN {n : Nat} {p : Nat × Nat} : p ∈ pairsN n ↔ p.1 < p.2 ∧ p.2 < n := by
  obtain ⟨a, b⟩ := p
  unfold pairsN
  simp only [List.mem_flatMap, List.mem_range, List.mem_map, List.mem_filter, decide_eq_true_iff, Prod.mk.injEq]
  constructor
  · rintro ⟨x, hx, y, ⟨hy, hxy⟩, rfl, rfl⟩
    exact ⟨hxy, hy⟩
  · rintro ⟨h1, h2⟩
    exact ⟨a, by omega, b, ⟨h2, h1⟩, rfl, rfl⟩
theorem sorted_pairsN (n : Nat) : (pairsN n).Pairwise ltP := by
  unfold pairsN
  rw [List.pairwise_flatMap]
  refine ⟨fun x hx => ?_, ?_⟩
  · rw [List.pairwise_map]
    refine List.Pairwise.filter _ ?_
    exact List.pairwise_lt_range.imp fun h => .inr ⟨rfl, h⟩
  · refine List.pairwise_lt_range.imp fun {a b} h => ?_
    intro p hp q hq
    obtain ⟨_, _, rfl⟩ := List.mem_map.mp hp
    obtain ⟨_, _, rfl⟩ := List.mem_map.mp hq
    exact .inl h
theorem nodup_pairsN (n : Nat) : (pairsN n).Nodup := (sorted_pairsN n).imp fun {a b} h e => by
  subst e
  rcases h with h | h <;> omega
def leP (p q : Nat × Nat) : Prop := PySem.W.dataLe false D.py (pD p) (pD q) = true
theorem leP_iff {p q : Nat × Nat} : leP p q ↔ ¬ ltP q p := by
  unfold leP
  show (!PySem.W.dataLt (pD q).py (pD p).py) = true ↔ _
  rw [lt_p, Bool.not_eq_true', decide_eq_false_iff_not]
  rfl
theorem sortable_ps {l : List (Nat × Nat)} (hl : l.length ≤ SZ) : sortable (l.map pD) = true := by
  unfold sortable
  rw [(nbs_plain 1 _ (nb_ps l)).1]
  have h1 : ((l.map pD).all fun d => (l.map pD).all fun d' => PySem.W.alike d.py d'.py) = true := by
    simp only [List.all_map, List.all_eq_true, Function.comp]
    intro p _ q _
    simp [pD, nD, D.py, D.pys, PySem.W.alike, PySem.W.alikeAll]
  have h2 : ((l.map pD).all fun d => isTup1 d.py) = true := by
    simp only [List.all_map, List.all_eq_true, Function.comp]
    intro p _
    rfl
  have h3 : ((l.map pD).all fun d => decide (d.py.depth ≤ 32)) = true := by
    simp only [List.all_map, List.all_eq_true, Function.comp]
    intro p _
    have := (nb_plain 1 _ (nb_p p)).2.2
    exact decide_eq_true (by omega)
  rw [h1, h2, h3, List.length_map, decide_eq_true hl]
  rfl
/-- pairs each once, put in order -/
theorem sort_ps {n : Nat} {l : List (Nat × Nat)} {Q : Nat × Nat → Bool} (nd : l.Nodup) (h : ∀ p, p ∈ l ↔ p ∈ pairsN n ∧ Q p = true) : sortD (l.map pD) = ((pairsN n).filter Q).map pD := by
  unfold sortD
  have le_trans : ∀ a b c : D, PySem.W.dataLe false D.py a b = true → PySem.W.dataLe false D.py b c = true → PySem.W.dataLe false D.py a c = true := fun a b c => (PySem.W.sortLe_total (PyProof.Rows.listOrd PyProof.Rows.itemOrd) false (fun b : D => PySem.W.keyToks b.py)).trans a b c
  have le_total : ∀ a b : D, (PySem.W.dataLe false D.py a b || PySem.W.dataLe false D.py b a) = true := fun a b => by
    have := (PySem.W.sortLe_total (PyProof.Rows.listOrd PyProof.Rows.itemOrd) false (fun b : D => PySem.W.keyToks b.py)).total a b
    exact Bool.or_eq_true_iff.mpr this
  have p1 : ((l.map pD).mergeSort (PySem.W.dataLe false D.py)).Perm (((pairsN n).filter Q).map pD) := by
    refine (List.mergeSort_perm _ _).trans (List.Perm.map _ ?_)
    refine (List.perm_ext_iff_of_nodup nd ((nodup_pairsN n).filter _)).mpr fun p => ?_
    rw [h p, List.mem_filter]
  refine List.Perm.eq_of_pairwise (le := fun a b => PySem.W.dataLe false D.py a b = true) ?_ (List.pairwise_mergeSort le_trans le_total _) ?_ p1
  · intro a b ha hb h1 h2
    obtain ⟨q, _, rfl⟩ := List.mem_map.mp hb
    have ha' := p1.mem_iff.mp ha
    obtain ⟨p, _, rfl⟩ := List.mem_map.mp ha'
    have h1 : leP p q := h1
    have h2 : leP q p := h2
    rw [leP_iff] at h1 h2
    unfold ltP at h1 h2
    rw [pD_inj]
    exact Prod.ext (by omega) (by omega)
  · rw [List.pairwise_map]
    refine ((sorted_pairsN n).filter Q).imp fun {a b} hlt => ?_
    show leP a b
    rw [leP_iff]
    unfold ltP at hlt ⊢
    omega
theorem x_sortP {n : Nat} {l : List (Nat × Nat)} {Q : Nat × Nat → Bool} (nd : l.Nodup) (hl : l.length ≤ SZ) (h : ∀ p, p ∈ l ↔ p ∈ pairsN n ∧ Q p = true) : xSorted [.lst (l.map pD)] = some (((pairsN n).filter Q).map pD) := by
  show (if sortable (l.map pD) = true then some (sortD (l.map pD)) else none) = _
  rw [if_pos (sortable_ps hl), sort_ps nd h]
end Ev

namespace Ev
open PySem PySem.Spec PyProof.Rows L2

section
variable {ρ : EE} {st st1 st2 : DS} {am : AM} {m te : EM} {tt tt1 : TM} {t t1 : Tg} {vs : List Nat} {it it1 : AM}
theorem rangeD_nat (n : Nat) : rangeD 0 (n : Int) = (List.range n).map nD := by
  unfold rangeD nD
  simp
theorem w_rangeN {n : Nat} (h : am ρ st = .ok [nD n] st1) (hn : n ≤ 1000000) : iRange1 am ρ st = .ok ((List.range n).map nD) st1 := by
  rw [← rangeD_nat]
  exact w_range1 h ⟨by omega, by omega⟩
theorem w_rangeL {i n : Nat} (h : am ρ st = .ok [nD i, nD n] st1) (hi : i ≤ 1000000) (hn : n ≤ 1000000) : iRange2 am ρ st = .ok ((List.range' i (n - i)).map nD) st1 := by
  rw [w_range2 h ⟨by omega, by omega, by omega, by omega⟩]
  congr 1
  unfold rangeD nD
  have e : ((n : Int) - (i : Int)).toNat = n - i := by omega
  rw [e, List.range'_eq_map_range, List.map_map]
  apply List.map_congr_left
  intro a _
  simp
/-- a comprehension over data of a kind, nothing drawn -/
theorem compL_mapF {α : Type} {f g : α → D} {p : α → Bool} : ∀ (xs : List α), (∀ a ∈ xs, ∃ ρ', bindE t (f a) (wipeE ρ vs) = some ρ' ∧ tt ρ' st = .ok (p a) st ∧ (p a = true → te ρ' st = .ok (g a) st)) → compL vs t tt te ρ (xs.map f) st = .ok ((xs.filter p).map g) st
  | [], _ => rfl
  | d :: ds, h => by
    obtain ⟨ρ', h1, h2, h3⟩ := h d List.mem_cons_self
    have ih := compL_mapF (g := g) (p := p) ds fun d' hd => h d' (List.mem_cons_of_mem _ hd)
    rw [List.map_cons]
    unfold compL
    rw [h1]
    show ((tt ρ' st).noX.bind _) = _
    rw [h2]
    show (if p d = true then _ else _) = _
    cases hp : p d with
    | true =>
      rw [if_pos rfl, h3 hp]
      show (compL vs t tt te ρ (ds.map f) st).bind _ = _
      rw [ih, List.filter_cons_of_pos hp]
      rfl
    | false =>
      rw [if_neg Bool.false_ne_true, ih, List.filter_cons_of_neg (by rw [hp]; exact Bool.false_ne_true)]
theorem w_compF {α : Type} {f g : α → D} {p : α → Bool} {xs : List α} (hi : it ρ st = .ok (xs.map f) st) (hl : xs.length ≤ 1000000) (h : ∀ a ∈ xs, ∃ ρ', bindE t (f a) (wipeE ρ vs) = some ρ' ∧ tt ρ' st = .ok (p a) st ∧ (p a = true → te ρ' st = .ok (g a) st)) : fComp vs t it tt te ρ st = .ok ((xs.filter p).map g) st :=
  w_comp hi (by rw [List.length_map]; exact Nat.le_trans hl (by decide)) (compL_mapF xs h)
/-- .. without a test -/
theorem w_compA {α : Type} {f g : α → D} {xs : List α} (hi : it ρ st = .ok (xs.map f) st) (hl : xs.length ≤ 1000000) (h : ∀ a ∈ xs, ∃ ρ', bindE t (f a) (wipeE ρ vs) = some ρ' ∧ te ρ' st = .ok (g a) st) : fComp vs t it tYesM te ρ st = .ok (xs.map g) st := by
  have q := w_compF (vs := vs) (t := t) (it := it) (tt := tYesM) (te := te) (p := fun _ => true) (g := g) hi hl fun a ha => by
    obtain ⟨ρ', h1, h2⟩ := h a ha
    exact ⟨ρ', h1, rfl, fun _ => h2⟩
  rwa [List.filter_eq_self.mpr fun _ _ => rfl] at q
theorem compL2_mapF {α β : Type} {f : α → D} {f1 g : α → β → D} {ys : α → List β} {p : α → β → Bool} : ∀ (xs : List α), (∀ a ∈ xs, ∃ ρ', bindE t (f a) (wipeE ρ vs) = some ρ' ∧ it1 ρ' st = .ok ((ys a).map (f1 a)) st ∧ compL t1.slots t1 tt1 te ρ' ((ys a).map (f1 a)) st = .ok (((ys a).filter (p a)).map (g a)) st) →
    compL2 vs t tYesM it1 t1 tt1 te ρ (xs.map f) st = .ok (xs.flatMap fun a => ((ys a).filter (p a)).map (g a)) st
  | [], _ => rfl
  | d :: ds, h => by
    obtain ⟨ρ', h1, h2, h3⟩ := h d List.mem_cons_self
    have ih := compL2_mapF (f := f) (f1 := f1) (g := g) (ys := ys) (p := p) ds fun d' hd => h d' (List.mem_cons_of_mem _ hd)
    rw [List.map_cons]
    unfold compL2
    rw [h1]
    show ((it1 ρ' st).noX.bind _) = _
    rw [h2]
    show ((compL t1.slots t1 tt1 te ρ' ((ys d).map (f1 d)) st).noX.bind _) = _
    rw [h3]
    show ((compL2 vs t tYesM it1 t1 tt1 te ρ (ds.map f) st).noX.bind _) = _
    rw [ih]
    rfl
theorem w_comp2F {α β : Type} {f : α → D} {f1 g : α → β → D} {xs : List α} {ys : α → List β} {p : α → β → Bool} (hi : it ρ st = .ok (xs.map f) st) (hl : (xs.flatMap fun a => ((ys a).filter (p a)).map (g a)).length ≤ 1000000)
    (h : ∀ a ∈ xs, ∃ ρ', bindE t (f a) (wipeE ρ vs) = some ρ' ∧ it1 ρ' st = .ok ((ys a).map (f1 a)) st ∧ ∀ b ∈ ys a, ∃ ρ2, bindE t1 (f1 a b) (wipeE ρ' t1.slots) = some ρ2 ∧ tt1 ρ2 st = .ok (p a b) st ∧ (p a b = true → te ρ2 st = .ok (g a b) st)) :
    fComp2 vs t it tYesM it1 t1 tt1 te ρ st = .ok (xs.flatMap fun a => ((ys a).filter (p a)).map (g a)) st := by
  unfold fComp2
  rw [hi]
  show ((compL2 vs t tYesM it1 t1 tt1 te ρ (xs.map f) st).noX.bind _) = _
  rw [compL2_mapF (f := f) (f1 := f1) (g := g) (ys := ys) (p := p) xs fun a ha => by
    obtain ⟨ρ', h1, h2, h3⟩ := h a ha
    exact ⟨ρ', h1, h2, compL_mapF (ys a) h3⟩]
  show (if _ then _ else _) = _
  rw [if_pos (Nat.le_trans hl (by decide))]
end
/-! ### halls -/
def prs (n : Nat) (G : Nat → Nat → Bool) : List (Nat × Nat) := (pairsN n).filter fun p => G p.1 p.2
def hD (n : Nat) (G : Nat → Nat → Bool) : D := .tup [nD n, .tup ((prs n G).map pD)]
structure Gr (G : Nat → Nat → Bool) : Prop where
  sym : ∀ a b, G a b = G b a
  irr : ∀ a, G a a = false
theorem prs_congr {n : Nat} {G G' : Nat → Nat → Bool} (h : ∀ a b, a < b → b < n → G a b = G' a b) : prs n G = prs n G' := by
  unfold prs
  apply List.filter_congr
  intro p hp
  obtain ⟨h1, h2⟩ := mem_pairsN.mp hp
  exact h p.1 p.2 h1 h2
theorem hD_congr {n : Nat} {G G' : Nat → Nat → Bool} (h : ∀ a b, a < b → b < n → G a b = G' a b) : hD n G = hD n G' := by unfold hD; rw [prs_congr h]
theorem mem_prs {n : Nat} {G : Nat → Nat → Bool} {p : Nat × Nat} : p ∈ prs n G ↔ (p.1 < p.2 ∧ p.2 < n) ∧ G p.1 p.2 = true := by unfold prs; rw [List.mem_filter, mem_pairsN]
theorem pr_mem {n : Nat} {G : Nat → Nat → Bool} (g : Gr G) {x y : Nat} (hx : x < n) (hy : y < n) : decide ((min x y, max x y) ∈ prs n G) = G x y := by
  rw [Bool.eq_iff_iff, decide_eq_true_iff, mem_prs]
  rcases Nat.lt_trichotomy x y with h | h | h
  · rw [Nat.min_eq_left (by omega), Nat.max_eq_right (by omega)]
    exact ⟨fun z => z.2, fun z => ⟨⟨h, hy⟩, z⟩⟩
  · subst h
    rw [g.irr]
    simp
  · rw [Nat.min_eq_right (by omega), Nat.max_eq_left (by omega), g.sym x y]
    exact ⟨fun z => z.2, fun z => ⟨⟨h, hx⟩, z⟩⟩
theorem x_min2 {a b : Nat} : xMin2 [nD a, nD b] = some (nD (min a b)) := by
  show some (D.int (if (b : Int) < (a : Int) then (b : Int) else (a : Int))) = some (D.int ((min a b : Nat) : Int))
  congr 2
  by_cases h : b < a
  · rw [if_pos (by omega), Nat.min_eq_right (by omega)]
  · rw [if_neg (by omega), Nat.min_eq_left (by omega)]
theorem x_max2 {a b : Nat} : xMax2 [nD a, nD b] = some (nD (max a b)) := by
  show some (D.int (if (b : Int) > (a : Int) then (b : Int) else (a : Int))) = some (D.int ((max a b : Nat) : Int))
  congr 2
  by_cases h : b > a
  · rw [if_pos (by omega), Nat.max_eq_right (by omega)]
  · rw [if_neg (by omega), Nat.max_eq_left (by omega)]
theorem len_pairsN {n : Nat} (hn : n ≤ 100) : (pairsN n).length ≤ 10000 := by
  unfold pairsN
  rw [List.length_flatMap]
  have h : ∀ l : List Nat, ((l.map fun x => (((List.range n).filter fun y => decide (x < y)).map fun y => (x, y)).length)).sum ≤ l.length * n := by
    intro l
    induction l with
    | nil => simp
    | cons a l ih =>
      rw [List.map_cons, List.sum_cons, List.length_cons, Nat.succ_mul]
      have : (((List.range n).filter fun y => decide (a < y)).map fun y => (a, y)).length ≤ n := by
        rw [List.length_map]
        exact Nat.le_trans (List.length_filter_le _ _) (by rw [List.length_range]; exact Nat.le_refl _)
      omega
  have := h (List.range n)
  rw [List.length_range] at this
  have h2 : n * n ≤ 100 * 100 := Nat.mul_le_mul hn hn
  omega
theorem len_prs {n : Nat} {G : Nat → Nat → Bool} (hn : n ≤ 100) : (prs n G).length ≤ 10000 := Nat.le_trans (List.length_filter_le _ _) (len_pairsN hn)
/-! friends, turns -/
def frL (n : Nat) (G : Nat → Nat → Bool) (x : Nat) : List Nat := (List.range n).filter (G x)
theorem mem_frL {n : Nat} {G : Nat → Nat → Bool} {x y : Nat} : y ∈ frL n G x ↔ y < n ∧ G x y = true := by unfold frL; rw [List.mem_filter, List.mem_range]
def turnG (x : Nat) (G : Nat → Nat → Bool) : Nat → Nat → Bool := fun a b => G a b ^^ (decide (a ≠ b) && G x a && G x b)
theorem Gr.turn {G : Nat → Nat → Bool} (g : Gr G) (x : Nat) : Gr (turnG x G) := by
  refine ⟨fun a b => ?_, fun a => ?_⟩
  · unfold turnG
    rw [g.sym a b]
    congr 1
    rw [Bool.and_assoc, Bool.and_assoc, Bool.and_comm (G x a)]
    congr 1
    rw [Bool.eq_iff_iff, decide_eq_true_iff, decide_eq_true_iff]
    exact ⟨fun z e => z e.symm, fun z e => z e.symm⟩
  · unfold turnG
    rw [g.irr]
    simp
theorem turn_turn {G : Nat → Nat → Bool} (g : Gr G) (x a b : Nat) : turnG x (turnG x G) a b = G a b := by
  have h : ∀ c, turnG x G x c = G x c := fun c => by
    unfold turnG
    rw [g.irr]
    simp
  show ((G a b ^^ (decide (a ≠ b) && G x a && G x b)) ^^ (decide (a ≠ b) && turnG x G x a && turnG x G x b)) = G a b
  rw [h, h]
  cases G a b <;> cases (decide (a ≠ b) && G x a && G x b) <;> rfl
/-- swapping: a turn at x, y, x is one at y, x, y -/
theorem pivot {G : Nat → Nat → Bool} (g : Gr G) {x y : Nat} (hxy : G x y = true) (a b : Nat) : turnG x (turnG y (turnG x G)) a b = turnG y (turnG x (turnG y G)) a b := by
  have ne : x ≠ y := fun e => by subst e; rw [g.irr] at hxy; cases hxy
  have hyx : G y x = true := by rw [g.sym]; exact hxy
  unfold turnG
  simp only [g.irr, hxy, hyx]
  by_cases hax : a = x
  · subst hax
    by_cases hbx : b = a
    · subst hbx; simp [g.irr]
    · by_cases hby : b = y
      · subst hby; simp [g.irr, hxy, hyx, ne, Ne.symm ne]
      · simp [g.irr, hxy, hyx, ne, Ne.symm ne, hbx, Ne.symm hbx, hby, Ne.symm hby]
        cases G a b <;> cases G y b <;> rfl
  · by_cases hay : a = y
    · subst hay
      by_cases hbx : b = x
      · subst hbx; simp [g.irr, hxy, hyx, ne, Ne.symm ne]
      · by_cases hby : b = a
        · subst hby; simp [g.irr]
        · simp [g.irr, hxy, hyx, ne, Ne.symm ne, hbx, Ne.symm hbx, hby, Ne.symm hby]
          cases G a b <;> cases G x b <;> rfl
    · by_cases hbx : b = x
      · subst hbx
        simp [g.irr, hxy, hyx, ne, Ne.symm ne, hax, Ne.symm hax, hay, Ne.symm hay, g.sym a b]
        cases G b a <;> cases G y a <;> rfl
      · by_cases hby : b = y
        · subst hby
          simp [g.irr, hxy, hyx, ne, Ne.symm ne, hax, Ne.symm hax, hay, Ne.symm hay, g.sym a b]
          cases G b a <;> cases G x a <;> rfl
        · by_cases hab : a = b
          · subst hab; simp [g.irr]
          · simp [g.irr, hxy, hyx, ne, Ne.symm ne, hax, Ne.symm hax, hay, Ne.symm hay, hbx, Ne.symm hbx, hby, Ne.symm hby, hab]
            cases G a b <;> cases G x a <;> cases G x b <;> cases G y a <;> cases G y b <;> rfl
theorem x_ltN {a b : Nat} : xLtA (nD a) (nD b) = some (.bl (decide (a < b))) := by
  show some (D.bl (decide ((a : Int) < (b : Int)))) = _
  congr 2
  rw [Bool.eq_iff_iff, decide_eq_true_iff, decide_eq_true_iff]
  omega
theorem x_addL {xs ys : List D} (h : xs.length + ys.length ≤ SZ) : xAdd (.lst xs) (.lst ys) = some (.lst (xs ++ ys)) := by
  have e : xAddL (.lst xs) (.lst ys) = some (.lst (xs ++ ys)) := by show (if _ then _ else _) = _; rw [if_pos h]
  show orD xAddL xAddS (.lst xs) (.lst ys) = _
  unfold orD
  rw [e]
theorem x_tupL {xs : List D} : xTuple [.lst xs] = some (.tup xs) := rfl
/-- the pairs of x's friends -/
def wP (n : Nat) (G : Nat → Nat → Bool) (x : Nat) : List (Nat × Nat) := (frL n G x).flatMap fun a => ((frL n G x).filter fun b => decide (a < b)).map fun b => (a, b)
theorem mem_wP {n : Nat} {G : Nat → Nat → Bool} {x : Nat} {p : Nat × Nat} : p ∈ wP n G x ↔ p.1 < p.2 ∧ p.2 < n ∧ G x p.1 = true ∧ G x p.2 = true := by
  obtain ⟨a, b⟩ := p
  unfold wP
  simp only [List.mem_flatMap, List.mem_map, List.mem_filter, decide_eq_true_iff, Prod.mk.injEq, mem_frL]
  constructor
  · rintro ⟨c, ⟨h1, h2⟩, d, ⟨⟨h3, h4⟩, h5⟩, rfl, rfl⟩
    exact ⟨h5, h3, h2, h4⟩
  · rintro ⟨h1, h2, h3, h4⟩
    exact ⟨a, ⟨by omega, h3⟩, b, ⟨⟨h2, h4⟩, h1⟩, rfl, rfl⟩
theorem nodup_wP {n : Nat} {G : Nat → Nat → Bool} {x : Nat} : (wP n G x).Nodup := by
  have hs : (frL n G x).Pairwise (· < ·) := List.Pairwise.filter _ List.pairwise_lt_range
  unfold wP
  have h : ∀ l : List Nat, l.Pairwise (· < ·) → (l.flatMap fun a => ((frL n G x).filter fun b => decide (a < b)).map fun b => (a, b)).Pairwise ltP := by
    intro l hl
    rw [List.pairwise_flatMap]
    refine ⟨fun a ha => ?_, ?_⟩
    · rw [List.pairwise_map]
      exact (hs.filter _).imp fun h => .inr ⟨rfl, h⟩
    · refine hl.imp fun {a b} h => ?_
      intro p hp q hq
      obtain ⟨_, _, rfl⟩ := List.mem_map.mp hp
      obtain ⟨_, _, rfl⟩ := List.mem_map.mp hq
      exact .inl h
  exact (h _ hs).imp fun {a b} h e => by
    subst e
    rcases h with h | h <;> omega
theorem len_wP {n : Nat} {G : Nat → Nat → Bool} {x : Nat} (hn : n ≤ 100) : (wP n G x).length ≤ 10000 :=
  Nat.le_trans ((nodup_wP).length_le_of_subset fun p hp => mem_pairsN.mpr ⟨(mem_wP.mp hp).1, (mem_wP.mp hp).2.1⟩) (len_pairsN hn)
theorem turn_sort {n : Nat} {G : Nat → Nat → Bool} {x : Nat} (hn : n ≤ 8) : xSorted [.lst ((((prs n G).filter fun p => true ^^ decide (p ∈ wP n G x)) ++ ((wP n G x).filter fun p => true ^^ decide (p ∈ prs n G))).map pD)] = some ((prs n (turnG x G)).map pD) := by
  refine x_sortP ?_ ?_ fun p => ?_
  · rw [List.nodup_append]
    refine ⟨(((nodup_pairsN n).filter _).filter _), nodup_wP.filter _, fun a ha b hb e => ?_⟩
    subst e
    have h1 := (List.mem_filter.mp ha).1
    have h2 := (List.mem_filter.mp hb).2
    simp at h2
    exact h2 h1
  · rw [List.length_append]
    have h1 := List.length_filter_le (fun p => true ^^ decide (p ∈ wP n G x)) (prs n G)
    have h2 := List.length_filter_le (fun p => true ^^ decide (p ∈ prs n G)) (wP n G x)
    have h3 := len_prs (n := n) (G := G) (by omega)
    have h4 := len_wP (n := n) (G := G) (x := x) (by omega)
    show _ ≤ 16777216
    omega
  · rw [List.mem_append, List.mem_filter, List.mem_filter, mem_pairsN, Bool.true_xor, Bool.true_xor, Bool.not_eq_true', Bool.not_eq_true', decide_eq_false_iff_not, decide_eq_false_iff_not, mem_prs, mem_wP]
    unfold turnG
    by_cases h : p.1 < p.2 ∧ p.2 < n
    · have hne : decide (p.1 ≠ p.2) = true := decide_eq_true (by omega)
      rw [hne]
      cases h1 : G p.1 p.2 <;> cases h2 : G x p.1 <;> cases h3 : G x p.2 <;> simp [h]
    · constructor
      · rintro (⟨⟨z, _⟩, _⟩ | ⟨⟨z1, z2, _⟩, _⟩)
        · exact absurd z h
        · exact absurd ⟨z1, z2⟩ h
      · rintro ⟨z, _⟩
        exact absurd z h
section
variable {ρ ρ' : SE} {st st1 st2 : DS} {it : AM} {t : Tg} {n nb : SM} {xs : List D} {R : Res D}
theorem q_forN (h : it (erL ρ) st = .ok xs st1) (hp : D.pures xs = true ∨ lents ρ = []) (h2 : forL t nb xs ρ st1 = .ok (.nx, ρ') st2) (h3 : retD (n ρ' st2) = R) : retD (sSeq (sFor [] it t nb) n ρ st) = R := by
  refine q_step (s_for (ls := []) h hp ?_) h3
  show (forL t nb xs ρ st1).bind (fin []) = _
  rw [forL_fin (t := t) (nb := nb), h2]
theorem q_for0 (h : it (er ρ) st = .ok xs st1) (hp : D.pures xs = true) (h2 : forL t nb xs ρ st1 = .ok (.nx, ρ') st2) (h3 : retD (n ρ' st2) = R) : retD (sSeq (sFor0 it t nb) n ρ st) = R := q_step (s_for0 h hp h2) h3
theorem forL_invF {α : Type} {f : α → D} {xs : List α} (I : Nat → SE → DS → Prop) (h : ∀ (i : Nat) (a : α) (ρ : SE) (st : DS), xs[i]? = some a → I i ρ st → ∃ ρ1 ρ2 st2 fl, bindSE t (f a) ρ = some ρ1 ∧ nb ρ1 st = .ok (fl, ρ2) st2 ∧ (fl = .nx ∨ fl = .ct) ∧ I (i + 1) ρ2 st2) (h0 : I 0 ρ st) :
    ∃ ρ' st', forL t nb (xs.map f) ρ st = .ok (.nx, ρ') st' ∧ I xs.length ρ' st' := by
  obtain ⟨ρ', st', e1, e2⟩ := forL_inv (t := t) (nb := nb) I (ds := xs.map f) (fun i d ρ st hd hi => by
    rw [List.getElem?_map] at hd
    cases ha : xs[i]? with
    | none => rw [ha] at hd; cases hd
    | some a =>
      rw [ha] at hd
      cases hd
      exact h i a ρ st ha hi) 0 ρ st (Nat.zero_le _) h0
  rw [List.drop_zero] at e1
  rw [List.length_map] at e2
  exact ⟨ρ', st', e1, e2⟩
theorem take_succ_filter {α : Type} {xs : List α} {i : Nat} {a : α} {Q : α → Bool} (h : xs[i]? = some a) : (xs.take (i + 1)).filter Q = (xs.take i).filter Q ++ (if Q a = true then [a] else []) := by
  rw [List.take_succ, h, List.filter_append]
  congr 1
  show [a].filter Q = _
  by_cases hq : Q a = true
  · rw [List.filter_cons_of_pos hq, if_pos hq]; rfl
  · rw [List.filter_cons_of_neg hq, if_neg hq]; rfl
theorem x_eqB {a b : Bool} : xEq (.bl a) (.bl b) = some (.bl (a == b)) := by
  cases a <;> cases b <;> rfl
theorem x_neB {a b : Bool} : xNe (.bl a) (.bl b) = some (.bl (a != b)) := by
  cases a <;> cases b <;> rfl
end
theorem bls_map {α : Type} {p : α → Bool} : ∀ (l : List α), D.bls (l.map fun a => D.bl (p a)) = some (l.map p)
  | [] => rfl
  | a :: l => by
    show (D.bls (l.map fun a => D.bl (p a))).map (p a :: ·) = _
    rw [bls_map l]
    rfl
theorem x_all {α : Type} {p : α → Bool} (l : List α) : xAll [.lst (l.map fun a => D.bl (p a))] = some (.bl (l.all p)) := by
  show (D.bls (l.map fun a => D.bl (p a))).map _ = _
  rw [bls_map]
  show some (D.bl ((l.map p).all id)) = _
  rw [List.all_map]
  rfl
theorem x_any {α : Type} {p : α → Bool} (l : List α) : xAny [.lst (l.map fun a => D.bl (p a))] = some (.bl (l.any p)) := by
  show (D.bls (l.map fun a => D.bl (p a))).map _ = _
  rw [bls_map]
  show some (D.bl ((l.map p).any id)) = _
  rw [List.any_map]
  rfl
theorem cut_from (xs : List D) (k : Nat) : cutD xs (some (k : Int)) none = xs.drop k := by
  unfold cutD
  rw [HT.sIx_nat, HT.sIx_none]
  by_cases h : k ≤ xs.length
  · rw [Nat.min_eq_left h, List.take_of_length_le]
    rw [List.length_drop]
    omega
  · rw [Nat.min_eq_right (by omega), List.drop_of_length_le (Nat.le_refl _), List.take_nil, List.drop_of_length_le (by omega)]
theorem cut_to (xs : List D) (k : Nat) : cutD xs none (some (k : Int)) = xs.take k := by
  unfold cutD
  rw [HT.sIx_nat, HT.sIx_none, List.drop_zero, Nat.sub_zero]
  by_cases h : k ≤ xs.length
  · rw [Nat.min_eq_left h]
  · rw [Nat.min_eq_right (by omega), List.take_of_length_le (Nat.le_refl _), List.take_of_length_le (by omega)]
theorem zipD_map {α β : Type} {f : α → D} {g : β → D} (l : List α) (r : List β) : zipD (l.map f) (r.map g) = (l.zip r).map fun q => .tup [f q.1, g q.2] := by
  unfold zipD
  rw [List.zipWith_map]
  induction l generalizing r with
  | nil => simp
  | cons a l ih =>
    cases r with
    | nil => simp
    | cons b r => rw [List.zipWith_cons_cons, List.zip_cons_cons, List.map_cons, ih]
theorem x_ltP {p q : Nat × Nat} : xLtA (pD p) (pD q) = some (.bl (decide (p.1 < q.1 ∨ (p.1 = q.1 ∧ p.2 < q.2)))) := by
  have h : xLt (pD p) (pD q) = some (.bl (decide (p.1 < q.1 ∨ (p.1 = q.1 ∧ p.2 < q.2)))) := by
    have ho : (pD p).ord (pD q) = true := by
      unfold D.ord
      simp [pD, nD, D.plain, D.plains, D.py, D.pys, PySem.W.alike, PySem.W.alikeAll, D.isNon, PyData.depth, PyData.depthAll]
    show (if (pD p).ord (pD q) = true then _ else _) = _
    rw [if_pos ho, lt_p]
  show orD xLtI xLt (pD p) (pD q) = _
  unfold orD
  rw [show xLtI (pD p) (pD q) = none from rfl]
  exact h
theorem atI_nat {α : Type} {xs : List α} {i : Nat} {d : α} (h : xs[i]? = some d) : atI xs (i : Int) = some d := by
  unfold atI ixN
  have hl := (List.getElem?_eq_some_iff.mp h).1
  rw [if_pos (by omega), if_pos (by omega)]
  show xs[(i : Int).toNat]? = _
  rw [Int.toNat_natCast]
  exact h
theorem x_ixT {xs : List D} {i : Nat} {d : D} (h : xs[i]? = some d) : xIx (.tup xs) (nD i) = some d := by
  have e : xIxT (.tup xs) (nD i) = some d := atI_nat h
  show orD xIxL (orD xIxT xIxS) (.tup xs) (nD i) = _
  show orD xIxT xIxS (.tup xs) (nD i) = _
  unfold orD
  rw [e]
theorem x_ixL {xs : List D} {i : Nat} {d : D} (h : xs[i]? = some d) : xIx (.lst xs) (nD i) = some d := by
  have e : xIxL (.lst xs) (nD i) = some d := atI_nat h
  show orD xIxL (orD xIxT xIxS) (.lst xs) (nD i) = _
  unfold orD
  rw [e]
def turnsG (l : List Nat) (G : Nat → Nat → Bool) : Nat → Nat → Bool := l.foldl (fun G x => turnG x G) G
theorem Gr.turns {G : Nat → Nat → Bool} (g : Gr G) (l : List Nat) : Gr (turnsG l G) := by
  unfold turnsG
  induction l generalizing G with
  | nil => exact g
  | cons a l ih => exact ih (g.turn a)
theorem turns_snoc {l : List Nat} {x : Nat} {G : Nat → Nat → Bool} : turnsG (l ++ [x]) G = turnG x (turnsG l G) := by
  unfold turnsG
  rw [List.foldl_append]
  rfl
def okS (o : Option (Kd × D)) : Prop := ∀ d, o ≠ some (.lent, d)
theorem okS_none : okS none := fun _ e => nomatch e
theorem okS_sh {d : D} : okS (some (.sh, d)) := fun _ e => by cases e
theorem bind_at {ρ : SE} {i : Nat} {o : Option (Kd × D)} {d : D} (h : ρ[i]? = some o) (ho : okS o) : bindSE (.nm i) d ρ = some (ρ.set i (some (.sh, d))) := by
  show (if notLent ρ i = true then _ else _) = _
  rw [if_pos]
  unfold notLent
  rw [h]
  cases o with
  | none => rfl
  | some q =>
    obtain ⟨k, d⟩ := q
    cases k with
    | lent => exact absurd rfl (ho d)
    | _ => rfl
/-! what compares with itself -/
mutual
def D.ak : Nat → D → Bool
  | _, .int _ => true
  | _, .bl _ => true
  | _, .non => true
  | _, .str x => PyData.strOk x
  | k + 1, .tup xs => decide (xs.length ≤ 1000000) && D.aks k xs
  | k + 1, .lst xs => decide (xs.length ≤ 1000000) && D.aks k xs
  | _, _ => false
def D.aks : Nat → List D → Bool
  | _, [] => true
  | k, d :: ds => D.ak k d && D.aks k ds
end
theorem aks_get {k : Nat} : ∀ {xs : List D} {i : Nat} {d : D}, D.aks k xs = true → xs[i]? = some d → d.ak k = true
  | [], _, _, _, h => by simp at h
  | x :: xs, 0, d, h, e => by
    have h : x.ak k = true ∧ D.aks k xs = true := by simpa [D.aks] using h
    cases e
    exact h.1
  | x :: xs, i + 1, d, h, e => by
    have h : x.ak k = true ∧ D.aks k xs = true := by simpa [D.aks] using h
    exact aks_get (xs := xs) (i := i) h.2 e
theorem aks_map {α : Type} {k : Nat} {f : α → D} : ∀ {l : List α}, (∀ a ∈ l, (f a).ak k = true) → D.aks k (l.map f) = true
  | [], _ => rfl
  | a :: l, h => by
    show (D.ak k (f a) && D.aks k (l.map f)) = true
    rw [h a List.mem_cons_self, aks_map fun b hb => h b (List.mem_cons_of_mem _ hb)]
    rfl
theorem ak_hD {n : Nat} {G : Nat → Nat → Bool} (hn : n ≤ 100) : (hD n G).ak 3 = true := by
  show (decide ((2 : Nat) ≤ 1000000) && (D.ak 2 (nD n) && (D.ak 2 (.tup ((prs n G).map pD)) && true))) = true
  have h : D.ak 2 (.tup ((prs n G).map pD)) = true := by
    show (decide (((prs n G).map pD).length ≤ 1000000) && D.aks 1 ((prs n G).map pD)) = true
    rw [aks_map fun a _ => rfl, List.length_map, decide_eq_true (Nat.le_trans (len_prs hn) (by decide))]
    rfl
  rw [h]
  rfl
theorem ak_ns {l : List Nat} (h : l.length ≤ 1000000) : (D.tup (l.map nD)).ak 1 = true := by
  show (decide ((l.map nD).length ≤ 1000000) && D.aks 0 (l.map nD)) = true
  rw [aks_map fun a _ => rfl, List.length_map, decide_eq_true h]
  rfl
theorem nb_hD {n : Nat} {G : Nat → Nat → Bool} : (hD n G).nb 3 = true := by
  show (D.nb 2 (nD n) && (D.nb 2 (.tup ((prs n G).map pD)) && true)) = true
  rw [show D.nb 2 (.tup ((prs n G).map pD)) = true from nb_ps _]
  rfl
theorem x_eqS {k : Nat} {d : D} (h : d.nb k = true) (hk : k ≤ 64) : xEq d d = some (.bl true) := by
  rw [x_eq h h hk hk]
  congr 2
  exact @decide_eq_true _ (_) rfl
theorem x_neS {k : Nat} {d : D} (h : d.nb k = true) (hk : k ≤ 64) : xNe d d = some (.bl false) := by
  rw [x_ne h h hk hk]
  congr 2
  rw [Bool.not_eq_false']
  exact @decide_eq_true _ (_) rfl
end Ev

namespace Ev
open PySem PySem.Spec PyProof.Rows L2

/-! ### comprehensions that draw -/
inductive AllR {α β : Type} (R : α → β → Prop) : List α → List β → Prop
  | nil : AllR R [] []
  | cons {a : α} {b : β} {as : List α} {bs : List β} : R a b → AllR R as bs → AllR R (a :: as) (b :: bs)
theorem AllR.length {α β : Type} {R : α → β → Prop} {as : List α} {bs : List β} (h : AllR R as bs) : as.length = bs.length := by
  induction h with
  | nil => rfl
  | cons _ _ ih => rw [List.length_cons, List.length_cons, ih]
theorem AllR.mem {α β : Type} {R : α → β → Prop} {as : List α} {bs : List β} (h : AllR R as bs) {b : β} (hb : b ∈ bs) : ∃ a ∈ as, R a b := by
  induction h with
  | nil => cases hb
  | cons r _ ih =>
    rcases List.mem_cons.mp hb with rfl | hb
    · exact ⟨_, List.mem_cons_self, r⟩
    · obtain ⟨a, h1, h2⟩ := ih hb
      exact ⟨a, List.mem_cons_of_mem _ h1, h2⟩
theorem AllR.map_eq {α β γ : Type} {R : α → β → Prop} {f : α → γ} {g : β → γ} {as : List α} {bs : List β} (h : AllR R as bs) (hr : ∀ a b, R a b → g b = f a) : bs.map g = as.map f := by
  induction h with
  | nil => rfl
  | cons r _ ih => rw [List.map_cons, List.map_cons, ih, hr _ _ r]
section
variable {ρ : EE} {te : EM} {tt : TM} {t : Tg} {vs : List Nat}
theorem compL_sub {α : Type} {f g : α → D} {OK : DS → Prop} : ∀ (xs : List α), (∀ a ∈ xs, ∀ st, OK st → ∃ ρ' b st', bindE t (f a) (wipeE ρ vs) = some ρ' ∧ tt ρ' st = .ok b st' ∧ OK st' ∧ (b = true → te ρ' st' = .ok (g a) st')) → ∀ st, OK st →
    ∃ (L : List α) (st' : DS), compL vs t tt te ρ (xs.map f) st = .ok (L.map g) st' ∧ L.Sublist xs ∧ OK st'
  | [], _, st, ok => ⟨[], st, rfl, List.Sublist.slnil, ok⟩
  | d :: ds, h, st, ok => by
    obtain ⟨ρ', b, st1, h1, h2, ok1, h3⟩ := h d List.mem_cons_self st ok
    obtain ⟨L, st', e1, e2, e3⟩ := compL_sub (g := g) ds (fun d' hd => h d' (List.mem_cons_of_mem _ hd)) st1 ok1
    rw [List.map_cons]
    cases b with
    | true =>
      refine ⟨d :: L, st', ?_, e2.cons_cons d, e3⟩
      unfold compL
      rw [h1]
      show ((tt ρ' st).noX.bind _) = _
      rw [h2]
      show ((te ρ' st1).noX.bind _) = _
      rw [h3 rfl]
      show (compL vs t tt te ρ (ds.map f) st1).bind _ = _
      rw [e1]
      rfl
    | false =>
      refine ⟨L, st', ?_, e2.cons d, e3⟩
      unfold compL
      rw [h1]
      show ((tt ρ' st).noX.bind _) = _
      rw [h2]
      exact e1
theorem compL_draw {α β : Type} {f : α → D} {g : β → D} {R : α → β → Prop} {OK : DS → Prop} : ∀ (xs : List α), (∀ a ∈ xs, ∀ st, OK st → ∃ ρ' y st', bindE t (f a) (wipeE ρ vs) = some ρ' ∧ te ρ' st = .ok (g y) st' ∧ R a y ∧ OK st') → ∀ st, OK st →
    ∃ (ys : List β) (st' : DS), compL vs t tYesM te ρ (xs.map f) st = .ok (ys.map g) st' ∧ AllR R xs ys ∧ OK st'
  | [], _, st, ok => ⟨[], st, rfl, .nil, ok⟩
  | d :: ds, h, st, ok => by
    obtain ⟨ρ', y, st1, h1, h2, r, ok1⟩ := h d List.mem_cons_self st ok
    obtain ⟨ys, st', e1, e2, e3⟩ := compL_draw (g := g) (R := R) ds (fun d' hd => h d' (List.mem_cons_of_mem _ hd)) st1 ok1
    refine ⟨y :: ys, st', ?_, .cons r e2, e3⟩
    rw [List.map_cons]
    unfold compL
    rw [h1]
    show ((te ρ' st).noX.bind _) = _
    rw [h2]
    show (compL vs t tYesM te ρ (ds.map f) st1).bind _ = _
    rw [e1]
    rfl
end
/-! ### a hall of a list of pairs -/
def gOf (L : List (Nat × Nat)) : Nat → Nat → Bool := fun a b => decide ((a, b) ∈ L) || decide ((b, a) ∈ L)
theorem gOf_gr {L : List (Nat × Nat)} (h : ∀ p ∈ L, p.1 < p.2) : Gr (gOf L) := by
  refine ⟨fun a b => Bool.or_comm _ _, fun a => ?_⟩
  unfold gOf
  rw [Bool.or_self, decide_eq_false_iff_not]
  intro z
  exact Nat.lt_irrefl _ (h _ z)
theorem sort_gOf {n : Nat} {L : List (Nat × Nat)} (nd : L.Nodup) (h : ∀ p ∈ L, p.1 < p.2 ∧ p.2 < n) (hl : L.length ≤ SZ) : xSorted [.lst (L.map pD)] = some ((prs n (gOf L)).map pD) := by
  refine x_sortP nd hl fun p => ?_
  constructor
  · intro hp
    refine ⟨mem_pairsN.mpr (h p hp), ?_⟩
    unfold gOf
    rw [Bool.or_eq_true]
    exact .inl (decide_eq_true hp)
  · rintro ⟨h1, h2⟩
    obtain ⟨a, b⟩ := p
    have h1 := mem_pairsN.mp h1
    unfold gOf at h2
    rw [Bool.or_eq_true, decide_eq_true_iff, decide_eq_true_iff] at h2
    rcases h2 with h2 | h2
    · exact h2
    · have := (h _ h2).1
      have h3 := h1.1
      simp at this h3
      omega
end Ev

namespace Ev
open PySem PySem.Spec PyProof.Rows L2

section
variable {X : Cx} {Tb : Tbs} {ra : RA Tb} {E : XK} {e e2 e3 : Expr} {am : AM} {m : EM} {pos p tpos : Pos} {tg : Expr}
/-! ### enumerate -/
def idxD (n : Nat) : List D := (List.range n).map nD
def enumD (xs : List D) : List D := zipD (idxD xs.length) xs
theorem enumD_len (xs : List D) : (enumD xs).length = xs.length := by
  unfold enumD zipD idxD
  rw [List.length_zipWith, List.length_map, List.length_range, Nat.min_self]
theorem walks_enum {P : Par} {a : Addr} {xs : List D} : Walks P (Ite P.K a) [(.lst xs, .ref a)] (enumD xs) where
  goes i H B hi t := by
    obtain ⟨a', vs, ea, h, _, r⟩ := t _ (List.mem_cons_self)
    cases ea
    rw [enumD_len] at hi
    obtain ⟨v, hv, _⟩ := r.get (List.getElem?_eq_getElem (i := i) (l := xs) hi)
    exact ⟨vs, v, SqL.of h, hv⟩
  stops H B t := by
    obtain ⟨a', vs, ea, h, _, r⟩ := t _ (List.mem_cons_self)
    cases ea
    rw [enumD_len]
    exact ⟨vs, SqL.of h, Nat.le_of_eq r.length⟩
  yields i H x H' B d t hd y := by
    obtain ⟨a', vs, ea, h, _, r⟩ := t _ (List.mem_cons_self)
    cases ea
    obtain ⟨dx, dy, e1, e2, rfl⟩ := zipD_get hd
    obtain ⟨T, vx, hv, hT, hH, g1⟩ := y
    obtain ⟨v1, f1, r1⟩ := r.get e2
    have z1 := g1 vs (SqL.of h)
    rw [f1] at z1
    cases z1
    unfold idxD at e1
    rw [List.getElem?_map] at e1
    have ei : dx = nD i := by
      cases hr : (List.range xs.length)[i]? with
      | none => rw [hr] at e1; cases e1
      | some j =>
        rw [hr] at e1
        cases e1
        obtain ⟨hlt, he⟩ := List.getElem?_eq_some_iff.mp hr
        rw [List.getElem_range] at he
        rw [he]
    subst ei
    exact ⟨.inr ⟨T, _, hT, hH⟩, pair_rep hv hT hH rfl r1⟩
def iEnumM (am : AM) : AM := fun ρ st => (am ρ st).bind fun ds st1 => match ds with
  | [.lst xs] => .ok (enumD xs) st1
  | _ => .stuck
theorem di_enum {elts : List Expr} {kk : Nat} (hg : Gl X "enumerate") (hm : X.mg "enumerate" = none) (ha : DA X ra E [e] am) (hs : starEach [e] X.env = [(false, eval e X.env)] := by rfl) : DI X ra E (.Tuple elts kk tpos) (.Call (.Name "enumerate" p) [e] [] pos) (iEnumM am) :=
  PI.imp (pi_enum hg hm ha hs) fun σ H R ⟨B, ρ, st, p, q⟩ => ⟨B, ρ, st, p, Post.seq q fun ds st1 vs H1 hq e1 w1 rs q1 => by
    clear hq
    split at q1
    · rename_i xs
      obtain ⟨v, rfl, h1⟩ := reps1 rs
      obtain ⟨a, us, rfl, ha, na, ra1⟩ := id h1
      exact ⟨a, us, rfl, SqL.of ha, q1 _ H1 Ext.refl w1 ⟨_, walks_enum, fun t m => by rw [List.mem_singleton.mp m]; exact h1⟩⟩
    · exact q1.elim⟩
theorem w_enum {ρ : EE} {st st1 : DS} {xs : List D} (h : am ρ st = .ok [.lst xs] st1) : iEnumM am ρ st = .ok (enumD xs) st1 := by unfold iEnumM; rw [h]; rfl
/-! ### range(i, j, c) -/
def range3D (i c : Int) (n : Nat) : List D := (List.range n).map fun k => .int (i + (k : Nat) * c)
def okRg (i j c : Int) (n : Nat) : Bool := decide (c ≠ 0) && decide (c.natAbs < 1073741824) && Builtin.Range.small i j c && decide (Builtin.Range.rangeSize i j c = n)
theorem walks_range3 {P : Par} {lo c : Int} {n : Nat} : Walks P (Itc lo c n) [] (range3D lo c n) where
  goes i H B h _ := by
    unfold range3D at h
    rw [List.length_map, List.length_range] at h
    exact h
  stops H B _ := by
    unfold range3D
    rw [List.length_map, List.length_range]
    exact Nat.le_refl _
  yields i H x H' B d _ hd y := by
    obtain ⟨e1, e2⟩ := y
    subst e1 e2
    refine ⟨.inl rfl, ?_⟩
    unfold range3D at hd
    rw [List.getElem?_map] at hd
    cases hr : (List.range n)[i]? with
    | none => rw [hr] at hd; cases hd
    | some j =>
      rw [hr] at hd
      cases hd
      obtain ⟨hlt, he⟩ := List.getElem?_eq_some_iff.mp hr
      rw [List.getElem_range] at he
      subst he
      exact rfl
def iRange3 (am : AM) : AM := fun ρ st => (am ρ st).bind fun ds st1 => match ds with
  | [.int i, .int j, .int c] => if okRg i j c (Builtin.Range.rangeSize i j c).toNat = true then .ok (range3D i c (Builtin.Range.rangeSize i j c).toNat) st1 else .stuck
  | _ => .stuck
theorem reps3 {P : Par} {H : Hp} {B : Addr → Prop} {d d' d'' : D} {vs : List V} (h : Reps P H B [d, d', d''] vs) : ∃ v v' v'', vs = [v, v', v''] ∧ Rep P H B d v ∧ Rep P H B d' v' ∧ Rep P H B d'' v'' := by
  obtain ⟨v, w, rfl, h1, h2⟩ := h
  obtain ⟨v2, w2, rfl, h3, h4⟩ := h2
  obtain ⟨v3, w3, rfl, h5, h6⟩ := h4
  cases (show w3 = [] from h6)
  exact ⟨v, v2, v3, rfl, h1, h3, h5⟩
theorem rng3 {Y : It → Hp → Prop} {ds : List D} {P : Par} {H1 : Hp} {B : Addr → Prop} {vs : List V} {st1 : DS} {i j c : Int} (rs : Reps P H1 B [.int i, .int j, .int c] vs) (h : okRg i j c (Builtin.Range.rangeSize i j c).toNat = true) (q : Y (Itc i c (Builtin.Range.rangeSize i j c).toNat) H1) : ∃ (i j c : Int) (n : Nat), vs = [.int i, .int j, .int c] ∧ RgC i j c n ∧ Y (Itc i c n) H1 := by
  obtain ⟨v, v', v'', rfl, h1, h2, h3⟩ := reps3 rs
  unfold okRg at h
  simp only [Bool.and_eq_true, decide_eq_true_iff] at h
  obtain ⟨⟨⟨a, b⟩, c'⟩, d⟩ := h
  cases (show v = V.int i from h1)
  cases (show v' = V.int j from h2)
  cases (show v'' = V.int c from h3)
  exact ⟨i, j, c, _, rfl, ⟨a, b, c', d⟩, q⟩
theorem di_range3 (hg : Gl X "range") (hm : X.mg "range" = none) (ha : DA X ra E [e, e2, e3] am) (hs : starEach [e, e2, e3] X.env = (false, eval e X.env) :: starEach [e2, e3] X.env := by rfl) (hpl : (backTo pos (starEach [e2, e3] X.env)).any (·.1) = false := by rfl) : DI X ra E tg (.Call (.Name "range" p) [e, e2, e3] [] pos) (iRange3 am) :=
  PI.imp (pi_range3 hg hm ha hs hpl) fun σ H R ⟨B, ρ, st, p, q⟩ => ⟨B, ρ, st, p, Post.seq q fun ds st1 vs H1 hq e1 w1 rs q1 => by
    clear hq
    split at q1
    · split at q1
      · rename_i i j c hc
        exact rng3 (Y := R) (ds := []) (st1 := st1) rs hc (q1 _ H1 Ext.refl w1 ⟨[], walks_range3, fun t m => absurd m (by simp)⟩)
      · exact q1.elim
    · exact q1.elim⟩
theorem di0_range3 (hg : Gl X "range") (hm : X.mg "range" = none) (ha : DA X ra E [e, e2, e3] am) (hs : starEach [e, e2, e3] X.env = (false, eval e X.env) :: starEach [e2, e3] X.env := by rfl) (hpl : (backTo pos (starEach [e2, e3] X.env)).any (·.1) = false := by rfl) : DI0 X ra E tg (.Call (.Name "range" p) [e, e2, e3] [] pos) (iRange3 am) :=
  PI.imp (pi_range3 hg hm ha hs hpl) fun σ H R ⟨B, ρ, st, p, q⟩ => ⟨B, ρ, st, p, Post.seq q fun ds st1 vs H1 hq e1 w1 rs q1 => by
    clear hq
    split at q1
    · split at q1
      · rename_i i j c hc
        exact rng3 (Y := R) (ds := []) (st1 := st1) rs hc (q1 _ H1 Ext.refl w1 walks_range3)
      · exact q1.elim
    · exact q1.elim⟩
/-! ### -x -/
def cNeg (m : EM) : EM := fun ρ st => (m ρ st).bind fun d st1 => match d with
  | .int i => .ok (.int (-i)) st1
  | _ => .stuck
theorem de_neg (h : DE X ra E e m) : DE X ra E (.UnaryOp .USub e pos) (cNeg m) :=
  PE.imp (pe_un un_neg h) fun σ H Q ⟨B, ρ, st, p, q⟩ => ⟨B, ρ, st, p, Post.seq q fun d st1 v H1 hq e1 w1 r q1 => by
    clear hq
    split at q1
    · rename_i i
      exact ⟨i, rep_int r, q1 _ H1 Ext.refl w1 rfl⟩
    · exact q1.elim⟩
end
theorem blk_in {X : Cx} {N : List Str} {sc scope : Scope} {own : List (Str × Nat)} (h : blkC N sc scope own = true) (e1 : X.N = N := by rfl) (e2 : X.env.scope = sc := by rfl) : BlkOk X.N X.env.scope scope own := by rw [e1, e2]; exact blkOk_by h
end Ev

namespace Ev
open PySem PySem.Spec PyProof.Rows L2

section
variable {X : Cx} {Tb : Tbs} {ra : RA Tb} {E : XK} {e : Expr} {gm : GM} {pos : Pos}
/-! ### x.extend(e), e a list of another place -/
def extK (o : Option (Option (Kd × D))) (d : D) : Option (List D) := match o, d with
  | some (some (.own, .lst xs)), .lst ys => if xs.length + ys.length ≤ SZ then some (xs ++ ys) else none
  | _, _ => none
theorem extK_some {o : Option (Option (Kd × D))} {d : D} {zs : List D} (h : extK o d = some zs) : ∃ xs ys, o = some (some (.own, .lst xs)) ∧ d = .lst ys ∧ xs.length + ys.length ≤ SZ ∧ zs = xs ++ ys := by
  unfold extK at h
  split at h
  · rename_i xs ys
    split at h
    · rename_i hz
      cases h
      exact ⟨xs, ys, rfl, rfl, hz, rfl⟩
    · cases h
  · cases h
def gExtend (i : Nat) (g : GM) : GM := fun ρ st => match ρ[i]? with
  | some (some (.own, .lst _)) => (g ρ st).bind fun q st1 => match extK q.2[i]? q.1 with
    | some zs => .ok (.non, q.2.set i (some (.own, .lst zs))) st1
    | none => .stuck
  | _ => .stuck
theorem dg_extend {o : Expr} {i : Nat} {apos : Pos} (ho : PE X o (tVar i)) (he : DG X ra E e gm) (hbase : attributeBase o "extend" X.env (eval o X.env) = eval o X.env := by rfl)
    (hfew : ((backTo pos (starEach [e] X.env)).all (fun x => !x.1) && (backToKw pos (keywordEach [] X.env)).all (fun x => x.1.isSome) && decide ([e].length + ([] : List Keyword).length + (if ([] : List Keyword).isEmpty then 0 else 1) < 30)) = true := by rfl)
    (hline : (apos.endLine == pos.line) = true := by rfl) (hs : starEach [e] X.env = (false, eval e X.env) :: starEach [] X.env := by rfl) (hplain : (backTo pos (starEach [] X.env)).any (·.1) = false := by rfl) : DG X ra E (.Call (.Attribute o "extend" apos) [e] [] pos) (gExtend i gm) := by
  refine PE.imp (pe_bm PySem.F.plainAttrs_list PySem.F.slot_list_extend PySem.F.type_list_extend mt_extend ho (pa_cons he pa_nil hs) hbase hfew hline hs hplain) fun σ H Q ⟨H0, B, τ, ρ, st, g, q⟩ => ?_
  unfold gExtend at q
  split at q
  · rename_i xs0 hx0
    obtain ⟨a, hs, h1, h2, h3⟩ := g.own i .own _ hx0 (by decide)
    obtain ⟨vs0, e1, e2⟩ := top_lst h3
    refine ⟨.ref a, hs, .inl ⟨rfl, vs0, SqL.of e1⟩, H0, B, τ, ρ, st, g, GPost.seq q fun d ρ' st1 v H1 g1 r q1 => ?_⟩
    have q1 : GPost (pr X ra) H0 B τ σ E (fun H' B d v => Rep (pr X ra) H' B d v) Q (match extK ρ'[i]? d with
      | some zs => .ok (.non, ρ'.set i (some (.own, .lst zs))) st1
      | none => .stuck) := q1
    cases hk : extK ρ'[i]? d with
    | none => rw [hk] at q1; exact q1.elim
    | some zs =>
      rw [hk] at q1
      obtain ⟨xs, ys, hx, rfl, hz, rfl⟩ := extK_some hk
      obtain ⟨a', hs', h1', h2', h3'⟩ := g1.own i .own _ hx (by decide)
      rw [hs] at hs'
      cases hs'
      obtain ⟨vs, f1, f2⟩ := top_lst h3'
      obtain ⟨b, ws, rfl, k1, k2, k3⟩ := r
      refine ⟨a, b, vs, ws, rfl, rfl, f1, k1, by rw [f2.length, k3.length, sz_eq]; exact hz, ?_⟩
      exact q1 .non _ (g1.mutL hx hs (f2.append (k3.less fun b z => z.elim id fun z => z.elim))) rfl
  · exact q.elim
end
end Ev

namespace Ev
open PySem PySem.Spec PyProof.Rows L2

section
variable {X : Cx} {Tb : Tbs} {ra : RA Tb} {E : XK} {e e2 : Expr} {m m2 : EM} {pos p p2 p3 : Pos}
/-! ### list(range(..)), tuple(range(..)) -/
theorem reps_rg {P : Par} {H : Hp} {B : Addr → Prop} (a b : Int) : Reps P H B (rangeD a b) (L2.rgV a b) := by
  unfold rangeD L2.rgV
  induction List.range (b - a).toNat with
  | nil => exact Reps.nil
  | cons i l ih => exact Reps.cons rfl ih
def fRg1 (m : EM) : AM := fun ρ st => (m ρ st).bind fun d st1 => match d with
  | .int j => if -(2 ^ 62) ≤ j ∧ j < 2 ^ 62 ∧ j.toNat ≤ SZ then .ok (rangeD 0 j) st1 else .stuck
  | _ => .stuck
theorem rgOk1 {j : Int} (h : -(2 ^ 62) ≤ j ∧ j < 2 ^ 62 ∧ j.toNat ≤ SZ) : L2.RgOk 0 j := ⟨by omega, by omega, h.1, h.2.1, by rw [Int.sub_zero]; exact h.2.2⟩
theorem df_rg1 (hc : X.calm = true) (hg0 : Gl X "list") (hm0 : X.mg "list" = none) (hg : Gl X "range") (hm : X.mg "range" = none) (h : DE X ra E e m) (na : starEach [e] X.env = (false, eval e X.env) :: starEach [] X.env := by rfl)
    (nb : starEach [.Call (.Name "range" p2) [e] [] p3] X.env = (false, eval (.Call (.Name "range" p2) [e] [] p3) X.env) :: starEach [] X.env := by rfl) : DF X ra E (.Call (.Name "list" p) [.Call (.Name "range" p2) [e] [] p3] [] pos) (fRg1 m) :=
  PE.imp (L2.pe_listRg hc hg0 hm0 (L2.prg_1 hg hm h na) nb) fun σ H Q ⟨B, ρ, st, p, q⟩ => ⟨B, ρ, st, p, Post.seq q fun d st1 v H1 hq e1 w1 r q1 => by
    clear hq
    split at q1
    · rename_i j
      split at q1
      · rename_i hj
        refine ⟨j, rep_int r, rgOk1 hj, fun t ht => q1 (.ref t) _ (Ext.new ht) (w1.new ht) ⟨t, _, rfl, e1.fresh ht, upd_same, reps_rg 0 j⟩⟩
      · exact q1.elim
    · exact q1.elim⟩
def cRgT1 (m : EM) : EM := fun ρ st => (fRg1 m ρ st).bind fun xs st1 => .ok (.tup xs) st1
theorem de_rgT1 (hc : X.calm = true) (hg0 : Gl X "tuple") (hm0 : X.mg "tuple" = none) (hg : Gl X "range") (hm : X.mg "range" = none) (h : DE X ra E e m) (na : starEach [e] X.env = (false, eval e X.env) :: starEach [] X.env := by rfl)
    (nb : starEach [.Call (.Name "range" p2) [e] [] p3] X.env = (false, eval (.Call (.Name "range" p2) [e] [] p3) X.env) :: starEach [] X.env := by rfl) : DE X ra E (.Call (.Name "tuple" p) [.Call (.Name "range" p2) [e] [] p3] [] pos) (cRgT1 m) :=
  PE.imp (L2.pe_tupRg hc hg0 hm0 (L2.prg_1 hg hm h na) nb) fun σ H Q ⟨B, ρ, st, p, q⟩ => ⟨B, ρ, st, p, by
    unfold cRgT1 fRg1 at q
    cases hr : m ρ st with
    | ok d st1 =>
      rw [hr] at q
      intro v H1 e1 w1 r
      cases d with
      | int j =>
        by_cases hj : -(2 ^ 62) ≤ j ∧ j < 2 ^ 62 ∧ j.toNat ≤ SZ
        · have q : Post (pr X ra) B H E (fun H' d v => Rep (pr X ra) H' B d v) Q (((if -(2 ^ 62) ≤ j ∧ j < 2 ^ 62 ∧ j.toNat ≤ SZ then Res.ok (rangeD 0 j) st1 else .stuck) : Res (List D)).bind fun xs st1 => .ok (.tup xs) st1) := q
          rw [if_pos hj] at q
          exact ⟨j, rep_int r, rgOk1 hj, fun t ht => q (.ref t) _ (e1.trans (Ext.new ht)) (w1.new ht) ⟨t, _, rfl, SqT.of upd_same, reps_rg 0 j⟩⟩
        · have q : Post (pr X ra) B H E (fun H' d v => Rep (pr X ra) H' B d v) Q (((if -(2 ^ 62) ≤ j ∧ j < 2 ^ 62 ∧ j.toNat ≤ SZ then Res.ok (rangeD 0 j) st1 else .stuck) : Res (List D)).bind fun xs st1 => .ok (.tup xs) st1) := q
          rw [if_neg hj] at q
          exact q.elim
      | _ => exact q.elim
    | exc c fs st1 => rw [hr] at q; exact q
    | stuck => rw [hr] at q; exact q⟩
end
end Ev

namespace Ev
open PySem PySem.Spec PyProof.Rows L2

/-! ### what may be walked: a list, a tuple, a text -/
inductive Sk where
  | l | t | s
inductive MS where
  | kl (a : Addr) (its : Array Value) | kt (a : Addr) (its : Array Value) | ks (x : Str) (t : Tok)
def MS.val : MS → Value
  | .kl a _ => .ref a
  | .kt a _ => .ref a
  | .ks x t => .str x t
def MS.sk : MS → Sk
  | .kl _ _ => .l
  | .kt _ _ => .t
  | .ks _ _ => .s
def fpK : Sk → Value → List Addr
  | .l, .ref a => [a]
  | .t, .ref a => [a]
  | _, _ => []
def ItK : Sk → Value → Addr → Nat → Heap → Prop
  | .l, .ref a, it, i, h => h.IsListIter it a i
  | .t, .ref a, it, i, h => h.IsTupleIter it a i
  | .s, .str x t, it, i, h => h.IsStrIter it (strIterType x) x t i
  | _, _, _, _, _ => False
def MS.ct : MS → Heap → Prop
  | .kl a its, h => h.IsList a its
  | .kt a its, h => h.IsTuple a its
  | .ks _ _, _ => True
def MS.n : MS → Nat
  | .kl _ its => its.size
  | .kt _ its => its.size
  | .ks x _ => x.cps.size
def MS.P : MS → Nat → Value → Prop
  | .kl _ its, i, v => its[i]? = some v
  | .kt _ its, i, v => its[i]? = some v
  | .ks x _, i, v => ∃ c u, x.cps[i]? = some c ∧ v = .str ⟨#[c]⟩ u
def MS.obj : MS → Obj
  | .kl a _ => { cls := .type "list_iterator", data := .fields #[.ref a, .int 0 0] }
  | .kt a _ => { cls := .type "tuple_iterator", data := .fields #[.ref a, .int 0 0] }
  | .ks x t => { cls := .type (strIterType x), data := .fields #[.str x t, .int 0 0] }
theorem MS.draws {prog : Program} {w : World} {A : Around} (hh : A.handled = none) (m : MS) (it : Addr) (hne : it ∉ fpK m.sk m.val) : Draws prog w A it (it :: fpK m.sk m.val) m.n m.P (fun i h => ItK m.sk m.val it i h ∧ m.ct h) := by
  cases m with
  | kl a its => exact Draws.list hh it a (fun e => hne (by rw [e]; exact List.mem_singleton.mpr rfl)) its
  | kt a its => exact Draws.tuple hh it a (fun e => hne (by rw [e]; exact List.mem_singleton.mpr rfl)) its
  | ks x t =>
    have D := Draws.text (prog := prog) (w := w) hh it x t
    exact ⟨fun i h st => D.live i h st.1, fun i h h' st k => ⟨D.frame i h h' st.1 k, trivial⟩, fun i s Q E hi st hQ => D.item i s Q E hi st.1 fun x h' tk p st' sb => hQ x h' tk p ⟨st', trivial⟩ sb, fun s Q E st hE => D.done s Q E st.1 hE⟩
theorem MS.begins (m : MS) : Begins m.val m.obj m.ct := by
  cases m with
  | kl a its => exact begins_list a its
  | kt a its => exact begins_tuple a its
  | ks x t => exact begins_text x t
theorem MS.starts (m : MS) {h : Heap} {it : Addr} (e : h.get? it = some m.obj) : ItK m.sk m.val it 0 h := by
  cases m with
  | kl a its => exact ⟨_, e, rfl, rfl⟩
  | kt a its => exact ⟨_, e, rfl, rfl⟩
  | ks x t => exact ⟨_, e, rfl, rfl⟩
theorem itK_obj {k : Sk} {u : Value} {it : Addr} {i : Nat} {h : Heap} (x : ItK k u it i h) : ∃ o, h.get? it = some o ∧ ∀ v, o.data ≠ .cell v := by
  unfold ItK at x
  split at x
  · obtain ⟨o, ho, _, hd⟩ := x; exact ⟨o, ho, fun v z => by rw [hd] at z; cases z⟩
  · obtain ⟨o, ho, _, hd⟩ := x; exact ⟨o, ho, fun v z => by rw [hd] at z; cases z⟩
  · obtain ⟨o, ho, _, hd⟩ := x; exact ⟨o, ho, fun v z => by rw [hd] at z; cases z⟩
  · exact x.elim
theorem itK_keep {k : Sk} {u : Value} {it : Addr} {i : Nat} {h h' : Heap} (x : ItK k u it i h) (e : ∀ o, h.get? it = some o → h'.get? it = some o) : ItK k u it i h' := by
  unfold ItK at x ⊢
  split at x
  · obtain ⟨o, ho, r⟩ := x; exact ⟨o, e o ho, r⟩
  · obtain ⟨o, ho, r⟩ := x; exact ⟨o, e o ho, r⟩
  · obtain ⟨o, ho, r⟩ := x; exact ⟨o, e o ho, r⟩
  · exact x.elim
/-! the same of V's -/
def signV (z : Str) : List V := z.cps.toList.map fun c => .str ⟨#[c]⟩
def SrcV (K : PySem.W.Frag) : Sk → V → List V → Hp → Prop
  | .l, v, xs, H => ∃ a, v = .ref a ∧ SqL K H a xs
  | .t, v, xs, H => ∃ a, v = .ref a ∧ SqT K H a xs
  | .s, v, xs, _ => ∃ z : Str, v = .str z ∧ xs = signV z
section
variable {X : Cx} {pins : List (Addr × Obj)} {σ : L2.St} {H : Hp} {s : Shared}
theorem srcV_ms (I : Inv X pins σ H s) {k : Sk} {v : V} {xs : List V} {u : Value} (h : SrcV X.K k v xs H) (r : RelV v u) : ∃ m : MS, m.sk = k ∧ m.val = u ∧ m.ct s.heap ∧ m.n = xs.length ∧ (∀ b ∈ fpK k u, b < s.heap.objs.size) ∧ ∀ i y, m.P i y → ∃ x, xs[i]? = some x ∧ RelV x y := by
  cases k with
  | l =>
    obtain ⟨a, rfl, h⟩ := h
    obtain ⟨its, rv, p, _⟩ := I.list h
    cases r
    refine ⟨.kl a its.toArray, rfl, rfl, p.isList, by rw [rv.length]; rfl, fun b hb => ?_, fun i y hy => ?_⟩
    · rw [List.mem_singleton.mp hb]
      exact p.lt
    · have hy : its.toArray[i]? = some y := hy
      have hl : i < xs.length := by
        have := (Array.getElem?_eq_some_iff.mp hy).1
        rw [rv.length]
        simpa using this
      obtain ⟨w, hw, rw'⟩ := rv.get (List.getElem?_eq_getElem hl)
      rw [show its[i]? = some y by simpa using hy] at hw
      cases hw
      exact ⟨_, List.getElem?_eq_getElem hl, rw'⟩
  | t =>
    obtain ⟨a, rfl, h⟩ := h
    obtain ⟨its, rv, p, _⟩ := I.tuple h
    cases r
    refine ⟨.kt a its.toArray, rfl, rfl, p, by rw [rv.length]; rfl, fun b hb => ?_, fun i y hy => ?_⟩
    · rw [List.mem_singleton.mp hb]
      obtain ⟨o, ho, _⟩ := p
      exact Heap.lt_size ho
    · have hy : its.toArray[i]? = some y := hy
      have hl : i < xs.length := by
        have := (Array.getElem?_eq_some_iff.mp hy).1
        rw [rv.length]
        simpa using this
      obtain ⟨w, hw, rw'⟩ := rv.get (List.getElem?_eq_getElem hl)
      rw [show its[i]? = some y by simpa using hy] at hw
      cases hw
      exact ⟨_, List.getElem?_eq_getElem hl, rw'⟩
  | s =>
    obtain ⟨z, rfl, rfl⟩ := h
    obtain ⟨t, rfl⟩ := r
    refine ⟨.ks z t, rfl, rfl, trivial, ?_, fun b hb => absurd hb (by simp [fpK]), fun i y hy => ?_⟩
    · unfold signV
      rw [List.length_map, Array.length_toList]
      rfl
    · obtain ⟨c, w, hc, rfl⟩ := hy
      refine ⟨.str ⟨#[c]⟩, ?_, ⟨w, rfl⟩⟩
      unfold signV
      rw [List.getElem?_map, Array.getElem?_toList, hc]
      rfl
theorem srcV_inj (I : Inv X pins σ H s) {k : Sk} {v : V} {xs ys : List V} (h : SrcV X.K k v xs H) (h' : SrcV X.K k v ys H) : xs = ys := by
  cases k with
  | l =>
    obtain ⟨a, rfl, h⟩ := h
    obtain ⟨b, e, h'⟩ := h'
    cases e
    exact I.list_inj h h'
  | t =>
    obtain ⟨a, rfl, h⟩ := h
    obtain ⟨b, e, h'⟩ := h'
    cases e
    exact I.tuple_inj h h'
  | s =>
    obtain ⟨z, rfl, rfl⟩ := h
    obtain ⟨y, e, rfl⟩ := h'
    cases e
    rfl
end
/-! ### zip of two such -/
def ItZ (K : PySem.W.Frag) (k1 k2 : Sk) (v1 v2 : V) : It :=
  ⟨fun i H => ∃ xs ys : List V, SrcV K k1 v1 xs H ∧ SrcV K k2 v2 ys H ∧ i < min xs.length ys.length,
    fun i H v H' => ∃ T x y, v = .ref T ∧ H T = none ∧ H' = upd H T (.tup [x, y]) ∧ (∀ xs, SrcV K k1 v1 xs H → xs[i]? = some x) ∧ ∀ ys, SrcV K k2 v2 ys H → ys[i]? = some y,
    fun i H => ∃ xs ys : List V, SrcV K k1 v1 xs H ∧ SrcV K k2 v2 ys H ∧ i = min xs.length ys.length⟩
theorem turn_zipG {P : Program} {w : World} {K : PySem.W.Frag} {elts : List Expr} {kk : Nat} {tpos : Pos} {k1 k2 : Sk} {v1 v2 : V} {u1 u2 : Value} {z TI TO i1 i2 : Addr} (D : ZipSep2 z TI TO i1 i2 (i1 :: fpK k1 u1) (i2 :: fpK k2 u2)) (n1 : i1 ∉ fpK k1 u1) (n2 : i2 ∉ fpK k2 u2) (r1 : RelV v1 u1) (r2 : RelV v2 u2) :
    Turn P w K (.Tuple elts kk tpos) (ItZ K k1 k2 v1 v2) [z, TI, TO, i1, i2] z (fun i h => IsZip h z TI TO .none ∧ IsTupOf2 h TI (.ref i1) (.ref i2) ∧ (∃ x y, IsTupOf2 h TO x y) ∧ ItK k1 u1 i1 i h ∧ ItK k2 u2 i2 i h) where
  mem := by simp
  obj := fun i h st c hc => by
    obtain ⟨hz, hTI, ⟨x, y, hTO⟩, h1, h2⟩ := st
    have e' : c = z ∨ c = TI ∨ c = TO ∨ c = i1 ∨ c = i2 := by simpa using hc
    rcases e' with q | q | q | q | q
    · rw [q]; exact ⟨_, hz, fun v q => nomatch q⟩
    · rw [q]; exact ⟨_, hTI, fun v q => nomatch q⟩
    · rw [q]; exact ⟨_, hTO, fun v q => nomatch q⟩
    · rw [q]; exact itK_obj h1
    · rw [q]; exact itK_obj h2
  keep := fun i h h' st k => by
    obtain ⟨hz, hTI, ⟨x, y, hTO⟩, h1, h2⟩ := st
    exact ⟨k z (by simp) _ hz, k TI (by simp) _ hTI, ⟨x, y, k TO (by simp) _ hTO⟩, itK_keep h1 fun o q => k i1 (by simp) o q, itK_keep h2 fun o q => k i2 (by simp) o q⟩
  item := by
    intro X hP hw hK hc i pins s σ H E I hf st hg
    subst hP hw hK
    obtain ⟨hz, hTI, hTO, h1, h2⟩ := st
    obtain ⟨xs, ys, hqx, hqy, hi⟩ := hg
    obtain ⟨m1, rfl, rfl, c1, l1, lt1, p1⟩ := srcV_ms I hqx r1
    obtain ⟨m2, rfl, rfl, c2, l2, lt2, p2⟩ := srcV_ms I hqy r2
    have W := WalksT.zipD2 D (MS.draws (prog := X.prog) (w := X.w) (A := X.A.in1) (I.ok.hd hc) m1 i1 n1) (MS.draws (prog := X.prog) (w := X.w) (A := X.A.in1) (I.ok.hd hc) m2 i2 n2)
    refine W.item i s _ _ (by rw [l1, l2]; exact hi) ⟨hz, hTI, hTO, ⟨h1, c1⟩, ⟨h2, c2⟩⟩ fun T vals h' tk hP hT hTT hm hk => ?_
    obtain ⟨x1, x2, q1, q2, rfl⟩ := hP
    obtain ⟨x, hx, rx⟩ := p1 i x1 q1
    obtain ⟨y, hy, ry⟩ := p2 i x2 q2
    have hTw : T ∉ [z, TO, i1, i2] := W.apart i T h' hm
    refine ⟨_, rfl, W.go elts kk tpos i T { s with heap := h', toks := tk } _ _ hm fun h'' st' hk' => ?_⟩
    have hT2 : h''.IsTuple T #[x1, x2] := hTT.at fun o e => hk' T o hTw e
    have new : ObjOk X.prog X.w (upd H T (.tup [x, y])) h'' T (.tup [x, y]) := ⟨by show 2 ≤ sizeLine; decide, [x1, x2], .cons rx (.cons ry .nil), hT2⟩
    have I1 : Inv X pins σ (upd H T (.tup [x, y])) { s with heap := h'', toks := tk } :=
      I.turnedNew (t' := tk) (ch := [z, TO, i1, i2]) (fun c o hb q => hk' c o hb (hk c o hb q)) (fun b hb => hf b (by
        have e' : b = z ∨ b = TO ∨ b = i1 ∨ b = i2 := by simpa using hb
        rcases e' with e | e | e | e <;> simp [e])) hT new
    obtain ⟨z1, z2, z3, ⟨z4, _⟩, ⟨z5, _⟩⟩ := st'
    refine ⟨.ref T, _, I1, rfl, ⟨T, x, y, rfl, I.hok.fresh hT, rfl, fun l hl => by rw [srcV_inj I hl hqx]; exact hx, fun l hl => by rw [srcV_inj I hl hqy]; exact hy⟩, ⟨z1, z2, z3, z4, z5⟩, fun c hcm => ?_⟩
    obtain ⟨x0, y0, hTO0⟩ := hTO
    have hlt : c < s.heap.objs.size := by
      have e' : c = z ∨ c = TI ∨ c = TO ∨ c = i1 ∨ c = i2 := by simpa using hcm
      rcases e' with q | q | q | q | q
      · rw [q]; exact Heap.lt_size hz
      · rw [q]; exact Heap.lt_size hTI
      · rw [q]; exact Heap.lt_size hTO0
      · rw [q]; obtain ⟨_, e1, _⟩ := itK_obj h1; exact Heap.lt_size e1
      · rw [q]; obtain ⟨_, e2, _⟩ := itK_obj h2; exact Heap.lt_size e2
    rw [upd_ne (Nat.ne_of_lt (Nat.lt_of_lt_of_le hlt hT))]
    exact (hf c hcm).1
  done := by
    intro X hP hw hK hc i pins s σ H E I hf st hg
    subst hP hw hK
    obtain ⟨hz, hTI, hTO, h1, h2⟩ := st
    obtain ⟨xs, ys, hqx, hqy, hi⟩ := hg
    obtain ⟨m1, rfl, rfl, c1, l1, lt1, p1⟩ := srcV_ms I hqx r1
    obtain ⟨m2, rfl, rfl, c2, l2, lt2, p2⟩ := srcV_ms I hqy r2
    have W := WalksT.zipD2 D (MS.draws (prog := X.prog) (w := X.w) (A := X.A.in1) (I.ok.hd hc) m1 i1 n1) (MS.draws (prog := X.prog) (w := X.w) (A := X.A.in1) (I.ok.hd hc) m2 i2 n2)
    refine W.done s _ _ (by rw [l1, l2, ← hi]; exact ⟨hz, hTI, hTO, ⟨h1, c1⟩, ⟨h2, c2⟩⟩) fun h' tk hk => ⟨rfl, I.turnedL (t' := tk) (ch := [z, TO, i1, i2]) hk (fun b hb => hf b (by
        have e' : b = z ∨ b = TO ∨ b = i1 ∨ b = i2 := by simpa using hb
        rcases e' with e | e | e | e <;> simp [e]))⟩
  self := fun A i s Q E st h => wpAny_pyIter_zip st.1 h
def iZipG (K : PySem.W.Frag) (ta : TA) : TI := fun σ H R => ta σ H fun vs H1 => ∃ k1 k2 v1 v2 xs ys, vs = [v1, v2] ∧ SrcV K k1 v1 xs H1 ∧ SrcV K k2 v2 ys H1 ∧ R (ItZ K k1 k2 v1 v2) H1
theorem pi_zipG {X : Cx} {e e2 : Expr} {ta : TA} {p pos tpos : Pos} {elts : List Expr} {kk : Nat} (hg : Gl X "zip") (hm : X.mg "zip" = none) (ha : PA X [e, e2] ta)
    (hs : starEach [e, e2] X.env = (false, eval e X.env) :: starEach [e2] X.env := by rfl) (hpl : (backTo pos (starEach [e2] X.env)).any (·.1) = false := by rfl) :
    PI X (.Tuple elts kk tpos) (.Call (.Name "zip" p) [e, e2] [] pos) (iZipG X.K ta) := by
  refine ⟨fun pins s σ H R I h => ?_⟩
  refine Call_ (ld_blt I hg hm PyProof.Rows.boot_zip (PyProof.Rows.callWith_type1 (thn (ha.run pos pins s σ H _ I h) fun us s1 ⟨vs, H1, I1, r1, q1⟩ => ?_) hs hpl))
  obtain ⟨k1, k2, v1, v2, xs, ys, rfl, hqx, hqy, q⟩ := q1
  cases r1 with
  | @cons _ u1 _ _ ru1 rr =>
    cases rr with
    | @cons _ u2 _ _ ru2 rr =>
      cases rr
      obtain ⟨m1, e1, e2', c1, _, lt1, _⟩ := srcV_ms I1 hqx ru1
      obtain ⟨m2, e3, e4, c2, _, lt2, _⟩ := srcV_ms I1 hqy ru2
      subst e1 e2' e3 e4
      refine zip_begins2 m1.begins m2.begins c1 c2 fun h' hz hTI hTO h1 h2 hsz hk => wpAny_pyIter_zip hz ?_
      have I2 : Inv X pins σ H1 { s1 with heap := h' } := I1.kept (t' := s1.toks) hk
      have n1 : s1.heap.objs.size ∉ fpK m1.sk m1.val := fun z => absurd (lt1 _ z) (Nat.lt_irrefl _)
      have n2 : s1.heap.objs.size + 1 ∉ fpK m2.sk m2.val := fun z => absurd (lt2 _ z) (Nat.not_lt.mpr (Nat.le_succ _))
      refine ⟨s1.heap.objs.size + 4, [s1.heap.objs.size + 4, s1.heap.objs.size + 2, s1.heap.objs.size + 3, s1.heap.objs.size, s1.heap.objs.size + 1], _, _, H1, rfl, I2, turn_zipG (zip_sep2 lt1 lt2) n1 n2 ru1 ru2, ⟨hz, hTI, ⟨_, _, hTO⟩, m1.starts h1, m2.starts h2⟩, fun c hcm => ?_, q⟩
      have e' : c = s1.heap.objs.size + 4 ∨ c = s1.heap.objs.size + 2 ∨ c = s1.heap.objs.size + 3 ∨ c = s1.heap.objs.size ∨ c = s1.heap.objs.size + 1 := by simpa using hcm
      have hle : s1.heap.objs.size ≤ c := by
        rcases e' with z | z | z | z | z
        · rw [z]; exact Nat.le_add_right _ _
        · rw [z]; exact Nat.le_add_right _ _
        · rw [z]; exact Nat.le_add_right _ _
        · rw [z]; exact Nat.le_refl _
        · rw [z]; exact Nat.le_add_right _ _
      exact I1.fpOk hle (I1.hok.fresh hle)
/-! ### enumerate of such a thing -/
theorem meets_enumerate_newB1 {v : Value} {o : Obj} {H : Heap → Prop} (B : Begins v o H) :
    Meets (Builtin.«enumerate.__new__» ⟨[.type "enumerate", v], []⟩) (fun _ R s => H s.heap ∧
      R (.ok (.ret (.ref (s.heap.push o).objs.size))) { s with heap := (s.heap.push o).push { cls := .type "enumerate", data := .fields #[.none, .bool false, .ref s.heap.objs.size, rawInt 0, .none, .none] } }) :=
  .of_wp fun prog w A R s h => by
    obtain ⟨hp, g, d, tk, os⟩ := s; obtain ⟨h1, h⟩ := h
    have hsub := sub_enumerate
    have q1 : ∀ {A' : Around} {E : Value → Shared → Prop} {Q : Value → Shared → Prop}, Q (.ref hp.objs.size) ⟨hp.push o, g, d, tk, os⟩ → wpAny (model prog w) A' (pyIter v) Q E ⟨hp, g, d, tk, os⟩ :=
      fun q => B.iter prog w _ _ ⟨hp, g, d, tk, os⟩ _ h1 q
    wp_walk using q1
    refine wpAny_stack_any fun st => wpAny_pure ?_
    split
    · rename_i c _ _ _ _ _
      cases (c == Value.type "enumerate")
      · wp_walk using q1
        exact ⟨_, rfl, h⟩
      · wp_walk using q1
        exact ⟨_, rfl, h⟩
    · wp_walk using q1
      exact ⟨_, rfl, h⟩
section
variable {prog : Program} {w : World} {A : Around} {E : Value → Shared → Prop} {s : Shared}
theorem enum_begins1 {v : Value} {o : Obj} {H : Heap → Prop} {Q : Value → Shared → Prop} (B : Begins v o H) (h1 : H s.heap)
    (h : ∀ h', IsEnum h' (s.heap.objs.size + 1) s.heap.objs.size 0 .none → h'.get? s.heap.objs.size = some o → h'.objs.size = s.heap.objs.size + 2 →
      (∀ b o, s.heap.get? b = some o → h'.get? b = some o) → Q (.ref (s.heap.objs.size + 1)) { s with heap := h' }) :
    wpAny (model prog w) A (call (.type "enumerate") [v]) Q E s := by
  refine callType_new F.called_enumerate (by decide) (F.typeCall_enumerate_1 _) (F.newCall_enumerate_1 _) (fun obj => F.args_object_init_2 obj _) F.entry_enumerate_new
    (meets_enumerate_newB1 B) ⟨h1, ?_⟩
  have hz : (s.heap.push o).objs.size = s.heap.objs.size + 1 := Heap.size_push ..
  show _ ∧ _
  rw [hz]
  have he : IsEnum ((s.heap.push o).push { cls := .type "enumerate", data := .fields #[.none, .bool false, .ref s.heap.objs.size, rawInt 0, .none, .none] }) (s.heap.objs.size + 1) s.heap.objs.size 0 .none := by
    have := Heap.get?_push_size (s.heap.push o) (o := { cls := .type "enumerate", data := .fields #[.none, .bool false, .ref s.heap.objs.size, rawInt 0, .none, .none] }) rfl
    rw [hz] at this; exact this
  refine ⟨⟨_, he, rfl⟩, h _ he (Heap.get?_push_of_some _ (Heap.get?_push_size _ B.free)) (by rw [Heap.size_push, hz]) fun b o x => Heap.get?_push_of_some _ (Heap.get?_push_of_some _ x)⟩
end
def ItE (K : PySem.W.Frag) (k : Sk) (v0 : V) : It :=
  ⟨fun i H => ∃ xs : List V, SrcV K k v0 xs H ∧ i < xs.length,
    fun i H v H' => ∃ T x, v = .ref T ∧ H T = none ∧ H' = upd H T (.tup [.int (i : Nat), x]) ∧ ∀ xs, SrcV K k v0 xs H → xs[i]? = some x,
    fun i H => ∃ xs : List V, SrcV K k v0 xs H ∧ i = xs.length⟩
theorem turn_enumG {P : Program} {w : World} {K : PySem.W.Frag} {elts : List Expr} {kk : Nat} {tpos : Pos} {k : Sk} {v0 : V} {u0 : Value} {e it : Addr} (hei : e ≠ it) (hef : e ∉ fpK k u0) (n1 : it ∉ fpK k u0) (r0 : RelV v0 u0) :
    Turn P w K (.Tuple elts kk tpos) (ItE K k v0) [e, it] e (fun i h => (∃ old, IsEnum h e it ((0 : Int) + (i : Int)) old) ∧ ItK k u0 it i h) where
  mem := by simp
  obj := fun i h st c hc => by
    obtain ⟨⟨old, he⟩, h1⟩ := st
    have e' : c = e ∨ c = it := by simpa using hc
    rcases e' with q | q
    · rw [q]; exact ⟨_, he, fun v q => nomatch q⟩
    · rw [q]; exact itK_obj h1
  keep := fun i h h' st kp => by
    obtain ⟨⟨old, he⟩, h1⟩ := st
    exact ⟨⟨old, kp e (by simp) _ he⟩, itK_keep h1 fun o q => kp it (by simp) o q⟩
  item := by
    intro X hP hw hK hc i pins s σ H E I hf st hg
    subst hP hw hK
    obtain ⟨he, h1⟩ := st
    obtain ⟨xs, hqx, hi⟩ := hg
    obtain ⟨m1, rfl, rfl, c1, l1, lt1, p1⟩ := srcV_ms I hqx r0
    have W := WalksT.enumFrom (0 : Int) (MS.draws (prog := X.prog) (w := X.w) (A := X.A.in1) (I.ok.hd hc) m1 it n1) e hei (fun z => (List.mem_cons.mp z).elim hei hef) List.mem_cons_self
    refine W.item i s _ _ (by rw [l1]; exact hi) ⟨he, ⟨h1, c1⟩⟩ fun T vals h' tk hP hT hTT hm hk => ?_
    obtain ⟨t, x1, q1, rfl⟩ := hP
    obtain ⟨x, hx, rx⟩ := p1 i x1 q1
    have hTw : T ∉ [e, it] := W.apart i T h' hm
    refine ⟨_, rfl, W.go elts kk tpos i T { s with heap := h', toks := tk } _ _ hm fun h'' st' hk' => ?_⟩
    have hT2 : h''.IsTuple T #[.int (0 + (i : Int)) t, x1] := hTT.at fun o e => hk' T o hTw e
    have new : ObjOk X.prog X.w (upd H T (.tup [.int (i : Nat), x])) h'' T (.tup [.int (i : Nat), x]) := ⟨by show 2 ≤ sizeLine; decide, [.int (0 + (i : Int)) t, x1], .cons ⟨t, by rw [Int.zero_add]⟩ (.cons rx .nil), hT2⟩
    have I1 : Inv X pins σ (upd H T (.tup [.int (i : Nat), x])) { s with heap := h'', toks := tk } :=
      I.turnedNew (t' := tk) (ch := [e, it]) (fun c o hb q => hk' c o hb (hk c o hb q)) hf hT new
    obtain ⟨z1, ⟨z4, _⟩⟩ := st'
    refine ⟨.ref T, _, I1, rfl, ⟨T, x, rfl, I.hok.fresh hT, rfl, fun l hl => by rw [srcV_inj I hl hqx]; exact hx⟩, ⟨z1, z4⟩, fun c hcm => ?_⟩
    obtain ⟨old, he⟩ := he
    have hlt : c < s.heap.objs.size := by
      have e' : c = e ∨ c = it := by simpa using hcm
      rcases e' with q | q
      · rw [q]; exact Heap.lt_size he
      · rw [q]; obtain ⟨_, e1, _⟩ := itK_obj h1; exact Heap.lt_size e1
    rw [upd_ne (Nat.ne_of_lt (Nat.lt_of_lt_of_le hlt hT))]
    exact (hf c hcm).1
  done := by
    intro X hP hw hK hc i pins s σ H E I hf st hg
    subst hP hw hK
    obtain ⟨he, h1⟩ := st
    obtain ⟨xs, hqx, hi⟩ := hg
    obtain ⟨m1, rfl, rfl, c1, l1, lt1, p1⟩ := srcV_ms I hqx r0
    have W := WalksT.enumFrom (0 : Int) (MS.draws (prog := X.prog) (w := X.w) (A := X.A.in1) (I.ok.hd hc) m1 it n1) e hei (fun z => (List.mem_cons.mp z).elim hei hef) List.mem_cons_self
    exact W.done s _ _ (by rw [l1, ← hi]; exact ⟨he, ⟨h1, c1⟩⟩) fun h' tk hk => ⟨rfl, I.turnedL (t' := tk) (ch := [e, it]) hk hf⟩
  self := fun A i s Q E st h => by
    obtain ⟨⟨old, he⟩, _⟩ := st
    exact wpAny_pyIter_enum he h
def iEnumG (K : PySem.W.Frag) (ta : TA) : TI := fun σ H R => ta σ H fun vs H1 => ∃ k v xs, vs = [v] ∧ SrcV K k v xs H1 ∧ R (ItE K k v) H1
theorem pi_enumG {X : Cx} {e : Expr} {ta : TA} {p pos tpos : Pos} {elts : List Expr} {kk : Nat} (hg : Gl X "enumerate") (hm : X.mg "enumerate" = none) (ha : PA X [e] ta)
    (hs : starEach [e] X.env = [(false, eval e X.env)] := by rfl) :
    PI X (.Tuple elts kk tpos) (.Call (.Name "enumerate" p) [e] [] pos) (iEnumG X.K ta) := by
  refine ⟨fun pins s σ H R I h => ?_⟩
  refine Call_ (ld_blt I hg hm PyProof.Rows.boot_enumerate (PyProof.Rows.callWith_type1 (thn (ha.run pos pins s σ H _ I h) fun us s1 ⟨vs, H1, I1, r1, q1⟩ => ?_) hs rfl))
  obtain ⟨k1, v1, xs, rfl, hqx, q⟩ := q1
  cases r1 with
  | @cons _ u1 _ _ ru1 rr =>
    cases rr
    obtain ⟨m1, e1, e2', c1, _, lt1, _⟩ := srcV_ms I1 hqx ru1
    subst e1 e2'
    refine enum_begins1 m1.begins c1 fun h' he h1 hsz hk => wpAny_pyIter_enum he ?_
    have I2 : Inv X pins σ H1 { s1 with heap := h' } := I1.kept (t' := s1.toks) hk
    have n1 : s1.heap.objs.size ∉ fpK m1.sk m1.val := fun z => absurd (lt1 _ z) (Nat.lt_irrefl _)
    have n2 : s1.heap.objs.size + 1 ∉ fpK m1.sk m1.val := fun z => absurd (lt1 _ z) (Nat.not_lt.mpr (Nat.le_succ _))
    refine ⟨s1.heap.objs.size + 1, [s1.heap.objs.size + 1, s1.heap.objs.size], _, _, H1, rfl, I2, turn_enumG (Nat.succ_ne_self _) n2 n1 ru1, ⟨⟨_, he⟩, m1.starts h1⟩, fun c hcm => ?_, q⟩
    have e' : c = s1.heap.objs.size + 1 ∨ c = s1.heap.objs.size := by simpa using hcm
    have hle : s1.heap.objs.size ≤ c := by
      rcases e' with z | z
      · rw [z]; exact Nat.le_add_right _ _
      · rw [z]; exact Nat.le_refl _
    exact I1.fpOk hle (I1.hok.fresh hle)
/-! ### the same of data -/
def signD (z : Str) : List D := z.cps.toList.map fun c => .str ⟨#[c]⟩
def D.src : D → Option (Sk × List D)
  | .lst xs => some (.l, xs)
  | .tup xs => some (.t, xs)
  | .str z => some (.s, signD z)
  | _ => none
theorem reps_sign {P : Par} {H : Hp} {B : Addr → Prop} (z : Str) : Reps P H B (signD z) (signV z) := by
  unfold signD signV
  induction z.cps.toList with
  | nil => exact Reps.nil
  | cons c l ih => exact Reps.cons rfl ih
theorem src_rep {P : Par} {H : Hp} {B : Addr → Prop} {d : D} {v : V} {k : Sk} {ds : List D} (r : Rep P H B d v) (e : d.src = some (k, ds)) : ∃ vs, SrcV P.K k v vs H ∧ Reps P H B ds vs := by
  cases d with
  | lst xs =>
    cases e
    obtain ⟨a, vs, rfl, h, _, r⟩ := r
    exact ⟨vs, ⟨a, rfl, SqL.of h⟩, r⟩
  | tup xs =>
    cases e
    obtain ⟨a, vs, rfl, h, r⟩ := r
    exact ⟨vs, ⟨a, rfl, h⟩, r⟩
  | str z =>
    cases e
    exact ⟨signV z, ⟨z, r, rfl⟩, reps_sign z⟩
  | _ => cases e
theorem walks_zipG {P : Par} {d1 d2 : D} {v1 v2 : V} {k1 k2 : Sk} {xs ys : List D} (e1 : d1.src = some (k1, xs)) (e2 : d2.src = some (k2, ys)) : Walks P (ItZ P.K k1 k2 v1 v2) [(d1, v1), (d2, v2)] (zipD xs ys) where
  goes i H B hi t := by
    obtain ⟨vs, h, r⟩ := src_rep (t _ List.mem_cons_self) e1
    obtain ⟨ws, h2, r2⟩ := src_rep (t _ (List.mem_cons_of_mem _ (List.mem_singleton.mpr rfl))) e2
    refine ⟨vs, ws, h, h2, ?_⟩
    unfold zipD at hi
    rw [List.length_zipWith] at hi
    rw [r.length, r2.length]
    exact hi
  stops H B t := by
    obtain ⟨vs, h, r⟩ := src_rep (t _ List.mem_cons_self) e1
    obtain ⟨ws, h2, r2⟩ := src_rep (t _ (List.mem_cons_of_mem _ (List.mem_singleton.mpr rfl))) e2
    refine ⟨vs, ws, h, h2, ?_⟩
    unfold zipD
    rw [List.length_zipWith, r.length, r2.length]
  yields i H x H' B d t hd y := by
    obtain ⟨vs, h, r⟩ := src_rep (t _ List.mem_cons_self) e1
    obtain ⟨ws, h2, r2⟩ := src_rep (t _ (List.mem_cons_of_mem _ (List.mem_singleton.mpr rfl))) e2
    obtain ⟨dx, dy, f1, f2, rfl⟩ := zipD_get hd
    obtain ⟨T, vx, vy, hv, hT, hH, g1, g2⟩ := y
    obtain ⟨w1, f1, r1⟩ := r.get f1
    obtain ⟨w2, f2, r2'⟩ := r2.get f2
    have z1 := g1 vs h
    have z2 := g2 ws h2
    rw [f1] at z1
    rw [f2] at z2
    cases z1
    cases z2
    exact ⟨.inr ⟨T, _, hT, hH⟩, pair_rep hv hT hH r1 r2'⟩
theorem walks_enumG {P : Par} {d1 : D} {v1 : V} {k1 : Sk} {xs : List D} (e1 : d1.src = some (k1, xs)) : Walks P (ItE P.K k1 v1) [(d1, v1)] (enumD xs) where
  goes i H B hi t := by
    obtain ⟨vs, h, r⟩ := src_rep (t _ List.mem_cons_self) e1
    rw [enumD_len] at hi
    exact ⟨vs, h, by rw [r.length]; exact hi⟩
  stops H B t := by
    obtain ⟨vs, h, r⟩ := src_rep (t _ List.mem_cons_self) e1
    exact ⟨vs, h, by rw [enumD_len, r.length]⟩
  yields i H x H' B d t hd y := by
    obtain ⟨vs, h, r⟩ := src_rep (t _ List.mem_cons_self) e1
    obtain ⟨dx, dy, f1, f2, rfl⟩ := zipD_get hd
    obtain ⟨T, vx, hv, hT, hH, g1⟩ := y
    obtain ⟨w1, f2, r1⟩ := r.get f2
    have z1 := g1 vs h
    rw [f2] at z1
    cases z1
    unfold idxD at f1
    rw [List.getElem?_map] at f1
    have ei : dx = nD i := by
      cases hr : (List.range xs.length)[i]? with
      | none => rw [hr] at f1; cases f1
      | some j =>
        rw [hr] at f1
        cases f1
        obtain ⟨hlt, he⟩ := List.getElem?_eq_some_iff.mp hr
        rw [List.getElem_range] at he
        rw [he]
    subst ei
    exact ⟨.inr ⟨T, _, hT, hH⟩, pair_rep hv hT hH rfl r1⟩
section
variable {X : Cx} {Tb : Tbs} {ra : RA Tb} {E : XK} {e e2 : Expr} {am : AM} {m : EM} {pos p tpos : Pos} {tg : Expr}
def zip2D : List D → Option (List D)
  | [a, b] => a.src.bind fun x => b.src.map fun y => zipD x.2 y.2
  | _ => none
def iZipM2 (am : AM) : AM := fun ρ st => (am ρ st).bind fun ds st1 => Res.of (zip2D ds) st1
theorem di_zip2 {elts : List Expr} {kk : Nat} (hg : Gl X "zip") (hm : X.mg "zip" = none) (ha : DA X ra E [e, e2] am)
    (hs : starEach [e, e2] X.env = (false, eval e X.env) :: starEach [e2] X.env := by rfl) (hpl : (backTo pos (starEach [e2] X.env)).any (·.1) = false := by rfl) : DI X ra E (.Tuple elts kk tpos) (.Call (.Name "zip" p) [e, e2] [] pos) (iZipM2 am) :=
  PI.imp (pi_zipG hg hm ha hs hpl) fun σ H R ⟨B, ρ, st, p, q⟩ => ⟨B, ρ, st, p, Post.seq q fun ds st1 vs H1 hq e1 w1 rs q1 => by
    clear hq
    cases hz : zip2D ds with
    | none => rw [hz] at q1; exact q1.elim
    | some zs =>
      rw [hz] at q1
      unfold zip2D at hz
      split at hz
      · rename_i a b
        cases ha : a.src with
        | none => rw [ha] at hz; cases hz
        | some x =>
          cases hb : b.src with
          | none => rw [ha, hb] at hz; cases hz
          | some y =>
            rw [ha, hb] at hz
            cases hz
            obtain ⟨v1, v2, rfl, r1, r2⟩ := reps2 rs
            obtain ⟨xs, s1, _⟩ := src_rep r1 ha
            obtain ⟨ys, s2, _⟩ := src_rep r2 hb
            refine ⟨x.1, y.1, v1, v2, xs, ys, rfl, s1, s2, q1 _ H1 Ext.refl w1 ⟨_, walks_zipG ha hb, fun t m => ?_⟩⟩
            rcases List.mem_cons.mp m with m | m
            · rw [m]; exact r1
            · rw [List.mem_singleton.mp m]; exact r2
      · cases hz⟩
def enum1D : List D → Option (List D)
  | [a] => a.src.map fun x => enumD x.2
  | _ => none
def iEnumM1 (am : AM) : AM := fun ρ st => (am ρ st).bind fun ds st1 => Res.of (enum1D ds) st1
theorem di_enum1 {elts : List Expr} {kk : Nat} (hg : Gl X "enumerate") (hm : X.mg "enumerate" = none) (ha : DA X ra E [e] am) (hs : starEach [e] X.env = [(false, eval e X.env)] := by rfl) : DI X ra E (.Tuple elts kk tpos) (.Call (.Name "enumerate" p) [e] [] pos) (iEnumM1 am) :=
  PI.imp (pi_enumG hg hm ha hs) fun σ H R ⟨B, ρ, st, p, q⟩ => ⟨B, ρ, st, p, Post.seq q fun ds st1 vs H1 hq e1 w1 rs q1 => by
    clear hq
    cases hz : enum1D ds with
    | none => rw [hz] at q1; exact q1.elim
    | some zs =>
      rw [hz] at q1
      unfold enum1D at hz
      split at hz
      · rename_i a
        cases ha : a.src with
        | none => rw [ha] at hz; cases hz
        | some x =>
          rw [ha] at hz
          cases hz
          obtain ⟨v1, rfl, r1⟩ := reps1 rs
          obtain ⟨xs, s1, _⟩ := src_rep r1 ha
          refine ⟨x.1, v1, xs, rfl, s1, q1 _ H1 Ext.refl w1 ⟨_, walks_enumG ha, fun t m => ?_⟩⟩
          rw [List.mem_singleton.mp m]; exact r1
      · cases hz⟩
end
end Ev

namespace Ev
open PySem PySem.Spec PyProof.Rows L2

section
variable {X : Cx} {Tb : Tbs} {ra : RA Tb} {E : XK} {a b e o : Expr} {es : List Expr} {ma mb m : EM} {am : AM} {pos p apos : Pos} {tg : Expr}
/-! ### a text is walked -/
theorem walks_str {P : Par} {z : Str} : Walks P (Its z) [] (signD z) where
  goes i H B hi _ := by
    unfold signD at hi
    rw [List.length_map, Array.length_toList] at hi
    exact hi
  stops H B _ := by
    unfold signD
    rw [List.length_map, Array.length_toList]
    exact Nat.le_refl _
  yields i H x H' B d _ hd y := by
    obtain ⟨e1, c, e2, e3⟩ := y
    subst e1 e3
    refine ⟨.inl rfl, ?_⟩
    unfold signD at hd
    rw [List.getElem?_map, Array.getElem?_toList, e2] at hd
    cases hd
    exact rfl
theorem di_strr (h : DE X ra E e m) : DI X ra E tg e (fun ρ st => (m ρ st).bind fun d st1 => match d with
  | .str z => .ok (signD z) st1
  | _ => .stuck) :=
  PI.imp (pi_str h) fun σ H R ⟨B, ρ, st, p, q⟩ => ⟨B, ρ, st, p, Post.seq q fun d st1 v H1 _ e1 w1 r q1 => by
    cases d with
    | str z => exact ⟨z, r, q1 _ H1 Ext.refl w1 ⟨[], walks_str, fun t m => absurd m (by simp)⟩⟩
    | _ => exact q1.elim⟩
def iSrc (m : EM) : AM := fun ρ st => (m ρ st).bind fun d st1 => Res.of (d.src.map fun x => x.2) st1
theorem di_src (h : DE X ra E e m) : DI X ra E tg e (iSrc m) :=
  PI.imp (PI.or (di_seq h) (di_strr h)) fun σ H R ⟨B, ρ, st, p, q⟩ => by
    unfold iSrc at q
    cases hr : m ρ st with
    | ok d st1 =>
      rw [hr] at q
      cases d with
      | lst xs => exact .inl ⟨B, ρ, st, p, by unfold iSeq; rw [hr]; exact q⟩
      | tup xs => exact .inl ⟨B, ρ, st, p, by unfold iSeq; rw [hr]; exact q⟩
      | str z => exact .inr ⟨B, ρ, st, p, by show Post _ _ _ _ _ _ ((m ρ st).bind _); rw [hr]; exact q⟩
      | _ => exact q.elim
    | exc c fs st1 =>
      rw [hr] at q
      exact .inl ⟨B, ρ, st, p, by unfold iSeq; rw [hr]; exact q⟩
    | stuck => rw [hr] at q; exact q.elim
/-! ### sep.join(xs) -/
def D.strs : List D → Option (List Str)
  | [] => some []
  | .str z :: r => (D.strs r).map (z :: ·)
  | _ :: _ => none
theorem strs_rep {P : Par} {H : Hp} {B : Addr → Prop} : ∀ {ds : List D} {vs : List V} {ys : List Str}, Reps P H B ds vs → D.strs ds = some ys → vs = ys.map V.str
  | [], vs, ys, r, e => by cases e; exact r
  | .str z :: ds, vs, ys, r, e => by
    obtain ⟨v, w, rfl, h1, h2⟩ := r
    have e : (D.strs ds).map (z :: ·) = some ys := e
    cases hk : D.strs ds with
    | none => rw [hk] at e; cases e
    | some ms =>
      rw [hk] at e
      cases e
      cases (show v = V.str z from h1)
      rw [strs_rep h2 hk, List.map_cons]
  | .non :: _, _, _, _, e => by cases e
  | .bl _ :: _, _, _, _, e => by cases e
  | .int _ :: _, _, _, _, e => by cases e
  | .tup _ :: _, _, _, _, e => by cases e
  | .lst _ :: _, _, _, _, e => by cases e
  | .dic _ _ :: _, _, _, _, e => by cases e
  | .obj _ _ _ :: _, _, _, _, e => by cases e
  | .row :: _, _, _, _, e => by cases e
  | .cell _ _ :: _, _, _, _, e => by cases e
  | .fn _ :: _, _, _, _, e => by cases e
  | .lam _ :: _, _, _, _, e => by cases e
def joinD (z : Str) : D → Option D
  | .lst xs => (D.strs xs).bind fun ys => if (ys.map (·.length)).sum + ys.length * z.length ≤ 16777216 then some (.str (Txt.join z ys)) else none
  | _ => none
def cJoin (a b : EM) : EM := fun ρ st => (a ρ st).bind fun x st1 => match x with
  | .str z => (b ρ st1).bind fun y st2 => Res.of (joinD z y) st2
  | _ => .stuck
theorem de_join (ho : DE X ra E o ma) (he : DE X ra E e mb) (hs : starEach [e] X.env = [(false, eval e X.env)] := by rfl) (hbase : attributeBase o "join" X.env (eval o X.env) = eval o X.env := by rfl) (hline : (apos.endLine == pos.line) = true := by rfl) :
    DE X ra E (.Call (.Attribute o "join" apos) [e] [] pos) (cJoin ma mb) :=
  PE.imp (pe_join ho he hs hbase hline) fun σ H Q ⟨B, ρ, st, p, q⟩ => ⟨B, ρ, st, p, Post.seq q fun x st1 vx H1 _ e1 w1 rx q1 => by
    have p1 := p.ext e1 w1
    cases x with
    | str z =>
      have q1 : EPost (pr X ra) B H1 E Q ((mb ρ st1).bind fun y st2 => Res.of (joinD z y) st2) := q1
      refine ⟨⟨z, rx⟩, B, ρ, st1, p1, Post.seq q1 fun y st2 vy H2 hq0 e2 w2 ry q2 => ?_⟩
      clear hq0
      cases hj : joinD z y with
      | none => rw [hj] at q2; exact q2.elim
      | some w =>
        rw [hj] at q2
        unfold joinD at hj
        split at hj
        · rename_i xs
          cases hk : D.strs xs with
          | none => rw [hk] at hj; cases hj
          | some ys =>
            rw [hk] at hj
            have hj : (if (ys.map (·.length)).sum + ys.length * z.length ≤ 16777216 then some (D.str (Txt.join z ys)) else none) = some w := hj
            split at hj
            · rename_i hc
              cases hj
              obtain ⟨l, vs, rfl, h1, _, h2⟩ := ry
              rw [strs_rep h2 hk] at h1
              exact ⟨z, l, ys, rx, rfl, .inl (SqL.of h1), hc, q2 _ H2 Ext.refl w2 rfl⟩
            · cases hj
        · cases hj
    | _ => exact q1.elim⟩
/-! ### list(text) -/
def xListS : List D → Option (List D)
  | [.str z] => if z.cps.size ≤ SZ then some (signD z) else none
  | _ => none
theorem c_listS (hc : X.calm = true) : CallF X ra (.type "list") xListS := by
  refine callF_of fun pins s σ B H xs zs vs us Q hb I ru rx e q => ?_
  unfold xListS at e
  split at e
  · rename_i z
    split at e
    · rename_i hz
      cases e
      obtain ⟨v, rfl, rv⟩ := reps1 rx
      obtain ⟨u, rfl, r1⟩ := vals1' ru
      cases (show v = V.str z from rv)
      obtain ⟨t, rfl⟩ := r1
      refine call_list_str (I.ok.hd hc) z t (fun h' tk acc' c' hk hS' hacc => ?_) (by rw [sz_eq]; exact hz)
      have hsz : acc'.size = z.cps.size := hacc.1
      have hv : Vals (signV z) acc'.toList := by
        refine vals_of_at (by unfold signV; rw [List.length_map, Array.length_toList, Array.length_toList, hsz]) fun j x u hx hu => ?_
        unfold signV at hx
        rw [List.getElem?_map, Array.getElem?_toList] at hx
        cases hc : z.cps[j]? with
        | none => rw [hc] at hx; cases hx
        | some c =>
          rw [hc] at hx
          cases hx
          obtain ⟨c', w, hc', rfl⟩ := hacc.2 j u (by simpa using hu)
          rw [hc] at hc'
          cases hc'
          exact ⟨w, rfl⟩
      have hn : H s.heap.objs.size = none := I.hok.fresh (Nat.le_refl _)
      refine ⟨.ref s.heap.objs.size, _, I.laid (t' := tk) (o := .lst (signV z)) hk (Nat.le_refl _) ?_, rfl, q _ (signV z) hn (reps_sign z)⟩
      refine ⟨?_, _, c', hv, hS'⟩
      unfold signV
      rw [List.length_map, Array.length_toList, sz_eq]
      exact hz
    · cases e
  · cases e
/-! ### s.index(t) -/
def xIndexS : D → D → Option D
  | .str z, .str y => match Builtin.Str.occurrences z y 0 z.length 1 with
    | i :: _ => some (.int (i : Nat))
    | [] => none
  | _, _ => none
def cMeth (T : D → Bool) (f : D → D → Option D) (a b : EM) : EM := fun ρ st => (a ρ st).bind fun x st1 => if T x = true then (b ρ st1).bind fun y st2 => Res.of (f x y) st2 else .stuck
def isStr : D → Bool
  | .str _ => true
  | _ => false
theorem de_indexS (ho : DE X ra E o ma) (he : DE X ra E e mb) (hbase : attributeBase o "index" X.env (eval o X.env) = eval o X.env := by rfl)
    (hfew : ((backTo pos (starEach [e] X.env)).all (fun x => !x.1) && (backToKw pos (keywordEach [] X.env)).all (fun x => x.1.isSome) && decide ([e].length + ([] : List Keyword).length + (if ([] : List Keyword).isEmpty then 0 else 1) < 30)) = true := by rfl)
    (hline : (apos.endLine == pos.line) = true := by rfl) (hs : starEach [e] X.env = (false, eval e X.env) :: starEach [] X.env := by rfl) (hplain : (backTo pos (starEach [] X.env)).any (·.1) = false := by rfl) :
    DE X ra E (.Call (.Attribute o "index" apos) [e] [] pos) (cMeth isStr xIndexS ma mb) :=
  PE.imp (pe_bm PySem.F.plainAttrs_str PySem.F.slot_str_index PySem.F.type_str_index mt_sindex ho (pa_cons he pa_nil hs) hbase hfew hline hs hplain) fun σ H Q ⟨B, ρ, st, p, q⟩ => ⟨B, ρ, st, p, Post.seq q fun x st1 vx H1 _ e1 w1 rx q1 => by
    have p1 := p.ext e1 w1
    cases x with
    | str z =>
      have q1 : EPost (pr X ra) B H1 E Q ((mb ρ st1).bind fun y st2 => Res.of (xIndexS (.str z) y) st2) := q1
      cases (show vx = V.str z from rx)
      refine ⟨rfl, B, ρ, st1, p1, Post.seq q1 fun y st2 vy H2 _ e2 w2 ry q2 => ?_⟩
      cases y with
      | str y =>
        cases (show vy = V.str y from ry)
        have q2 : EPost (pr X ra) B H2 E Q (Res.of (match Builtin.Str.occurrences z y 0 z.length 1 with
          | i :: _ => some (D.int (i : Nat))
          | [] => none) st2) := q2
        cases ho : Builtin.Str.occurrences z y 0 z.length 1 with
        | nil => rw [ho] at q2; exact q2.elim
        | cons i r =>
          rw [ho] at q2
          exact ⟨z, y, i, r, rfl, rfl, ho, q2 _ H2 Ext.refl w2 rfl⟩
      | _ => exact q2.elim
    | _ => exact q1.elim⟩
/-! ### texts, tuples, lists times an int, a bool -/
def mulOkB (z : Str) (n : Int) : Bool := decide (-(2 ^ 20) ≤ n) && decide (n ≤ 2 ^ 20) && decide (z.length ≤ 16)
theorem mulOk_of {z : Str} {n : Int} (h : mulOkB z n = true) : PySem.MulOk z n := by
  unfold mulOkB at h
  simp only [Bool.and_eq_true, decide_eq_true_iff] at h
  obtain ⟨⟨h1, h2⟩, h3⟩ := h
  refine ⟨?_, fun a b => ?_, fun a b => ?_⟩
  · rw [decide_eq_false (by omega), decide_eq_false (by omega)]
    rfl
  · have : (2 ^ 63 - 1 : Int) / n ≥ 16 := by
      have hn : 0 < n := by omega
      rw [ge_iff_le, Int.le_ediv_iff_mul_le hn]
      omega
    omega
  · have : z.length * n.toNat ≤ 16 * 2 ^ 20 := Nat.mul_le_mul h3 (by omega)
    unfold Builtin.Str.tooLong
    have e := sizeLine_eq
    exact decide_eq_false (by omega)
def xMulS : D → D → Option D
  | .str z, .int n => if mulOkB z n = true then some (.str (Txt.mul z n)) else none
  | _, _ => none
theorem o_mulS : OpD X ra (binaryOp .Mult) xMulS := by
  refine opD_of fun pins s σ B H x y z vx vy u w Q I ru rw' rx ry e q => ?_
  unfold xMulS at e
  split at e
  · rename_i z n
    split at e
    · rename_i hc
      cases e
      cases (show vx = V.str z from rx)
      cases (show vy = V.int n from ry)
      obtain ⟨t, rfl⟩ := ru
      obtain ⟨t2, rfl⟩ := rw'
      exact SB.mul (mulOk_of hc) fun t' k => ⟨.str _, H, I.kept (t' := k) fun _ _ e => e, ⟨_, rfl⟩, q _ rfl⟩
    · cases e
  · cases e
def xMulT : D → D → Option D
  | .tup xs, .int n => if xs ≠ [] ∧ 2 ≤ n ∧ n ≤ 1000 ∧ xs.length ≤ 1000 then some (.tup (List.replicate n.toNat xs).flatten) else none
  | _, _ => none
theorem reps_rep {P : Par} {H : Hp} {B : Addr → Prop} {ds : List D} {vs : List V} (r : Reps P H B ds vs) : ∀ k, Reps P H B (List.replicate k ds).flatten (List.replicate k vs).flatten
  | 0 => Reps.nil
  | k + 1 => by
    rw [List.replicate_succ, List.replicate_succ, List.flatten_cons, List.flatten_cons]
    exact r.append (reps_rep r k)
theorem o_mulT : OpD X ra (binaryOp .Mult) xMulT := by
  refine ⟨_, op_repT, fun B H st x y z vx vy Q b d w rx ry e q => ?_⟩
  unfold xMulT at e
  split at e
  · rename_i xs n
    split at e
    · rename_i hc
      cases e
      obtain ⟨l, vs, rfl, h1, r1⟩ := rx
      refine ⟨l, n, vs, rfl, ry, h1, fun z => hc.1 ?_, hc.2.1, hc.2.2.1, by rw [r1.length]; exact hc.2.2.2, fun p hp => q _ _ (Ext.new hp) (w.new hp) ⟨p, _, rfl, SqT.of upd_same, (reps_rep r1 _).ext (Ext.new hp) (sub_ra (P := pr X ra) b)⟩⟩
      have := r1.length
      rw [z] at this
      exact List.length_eq_zero_iff.mp this.symm
    · cases e
  · cases e
def xMulA : D → D → Option D := orD xMulI (orD xMulS xMulT)
theorem o_mulA : OpD X ra (binaryOp .Mult) xMulA := o_mulI.or (o_mulS.or o_mulT)
def mulL : D → D → Option (List D)
  | .lst xs, .int n => if -(2 ^ 63) ≤ n ∧ n < 2 ^ 63 ∧ xs.length * n.toNat ≤ SZ then some (List.replicate n.toNat xs).flatten else none
  | .lst xs, .bl k => some (if k = true then xs else [])
  | _, _ => none
def fMul (a b : EM) : AM := fun ρ st => (a ρ st).bind fun x st1 => (b ρ st1).bind fun y st2 => Res.of (mulL x y) st2
theorem or_r2 {fn : Value → Value → Sem Value} {r r' : R2} (h : OpR X fn r) (h' : OpR X fn r') : OpR X fn (fun x y H Q => r x y H Q ∨ r' x y H Q) := h.or h'
theorem df_mul (ha : DE X ra E a ma) (hb : DE X ra E b mb) : DF X ra E (.BinOp a .Mult b pos) (fMul ma mb) := by
  refine PE.imp (pe_op (or_r2 op_rep op_mul_lb) ha hb) fun σ H Q ⟨B, ρ, st, p, q⟩ => ⟨B, ρ, st, p, Post.seq q fun x st1 v H1 hq1 e1 w1 rx q1 => ?_⟩
  clear hq1
  have p1 := p.ext e1 w1
  refine ⟨B, ρ, st1, p1, Post.seq q1 fun y st2 vy H2 hq0 e2 w2 ry q2 => ?_⟩
  clear hq0
  have rx2 := rx.ext e2 (sub_ra p.bra)
  cases hz : mulL x y with
  | none => rw [hz] at q2; exact q2.elim
  | some zs =>
    rw [hz] at q2
    unfold mulL at hz
    split at hz
    · rename_i xs n
      split at hz
      · rename_i hc
        cases hz
        obtain ⟨l, vs, rfl, h1, n1, r1⟩ := rx2
        exact .inl ⟨l, n, vs, rfl, ry, h1, hc.1, hc.2.1, by rw [sz_eq, r1.length]; exact hc.2.2, fun t ht => q2 (.ref t) _ (Ext.new ht) (w2.new ht) ⟨t, _, rfl, e1.fresh (e2.fresh ht), upd_same, (reps_rep r1 _).ext (Ext.new ht) (sub_ra p.bra)⟩⟩
      · cases hz
    · rename_i xs k
      cases hz
      obtain ⟨l, vs, rfl, h1, n1, r1⟩ := rx2
      refine .inr ⟨l, vs, k, rfl, ry, SqL.of h1, fun t ht => q2 (.ref t) _ (Ext.new ht) (w2.new ht) ⟨t, _, rfl, e1.fresh (e2.fresh ht), upd_same, ?_⟩⟩
      cases k with
      | true => exact r1.ext (Ext.new ht) (sub_ra p.bra)
      | false => exact Reps.nil
    · cases hz
/-! ### a star within a display -/
def D.its : D → Option (List D)
  | .lst xs => some xs
  | .tup xs => some xs
  | _ => none
def aStar (m : EM) (r : AM) : AM := fun ρ st => (m ρ st).bind fun x st1 => (Res.of x.its st1).bind fun xs st1 => (r ρ st1).bind fun ys st2 => .ok (xs ++ ys) st2
theorem da_star (ha : DE X ra E e ma) (hr : DA X ra E es am) (hs : starEach (.Starred e p :: es) X.env = (true, eval e X.env) :: starEach es X.env := by rfl) : DA X ra E (.Starred e p :: es) (aStar ma am) :=
  PA.imp (StX.pa_star ha hr hs) fun σ H Q ⟨B, ρ, st, p, q⟩ => ⟨B, ρ, st, p, Post.seq q fun x st1 v H1 _ e1 w1 r q1 => by
    have p1 := p.ext e1 w1
    cases x with
    | lst xs =>
      have q1 : APost (pr X ra) B H1 E Q ((am ρ st1).bind fun ys st2 => .ok (xs ++ ys) st2) := q1
      obtain ⟨l, vs, rfl, h1, n1, r1⟩ := id r
      exact ⟨l, vs, rfl, .inr (SqL.of h1), B, ρ, st1, p1, Post.seq q1 fun ys st2 ws H2 _ e2 w2 rs q2 => q2 (vs ++ ws) H2 Ext.refl w2 ((r1.ext e2 (sub_ra p.bra)).append rs)⟩
    | tup xs =>
      have q1 : APost (pr X ra) B H1 E Q ((am ρ st1).bind fun ys st2 => .ok (xs ++ ys) st2) := q1
      obtain ⟨l, vs, rfl, h1, r1⟩ := id r
      exact ⟨l, vs, rfl, .inl h1, B, ρ, st1, p1, Post.seq q1 fun ys st2 ws H2 _ e2 w2 rs q2 => q2 (vs ++ ws) H2 Ext.refl w2 ((r1.ext e2 (sub_ra p.bra)).append rs)⟩
    | _ => exact q1.elim⟩
/-! ### xs[::-1] of a list -/
def fRev (m : EM) : AM := fun ρ st => (m ρ st).bind fun x st1 => match x with
  | .lst xs => .ok xs.reverse st1
  | _ => .stuck
theorem df_rev {k : Nat} {p1 p2 p3 : Pos} (he : DE X ra E e m) : DF X ra E (.Subscript e (.Slice none none (some (.UnaryOp .USub (.Constant (.int 1) k p1) p2)) p3) pos) (fRev m) :=
  PE.imp (pe_revL he) fun σ H Q ⟨B, ρ, st, p, q⟩ => ⟨B, ρ, st, p, Post.seq q fun x st1 v H1 _ e1 w1 r q1 => by
    cases x with
    | lst xs =>
      obtain ⟨a, vs, rfl, s, n, rs⟩ := id r
      exact ⟨a, vs, rfl, SqL.of s, fun t ht => q1 (.ref t) _ (Ext.new ht) (w1.new ht) ⟨t, _, rfl, e1.fresh ht, upd_same, rs.reverse.ext (Ext.new ht) (sub_ra p.bra)⟩⟩
    | _ => exact q1.elim⟩
end
end Ev

namespace Ev
open PySem PySem.Spec PyProof.Rows L2

/-! ### what a dict's lists tell -/
def sameK (a b : D) : Bool := NestedKey.beq (nkD a) (nkD b)
def dHas : List D → D → Bool
  | [], _ => false
  | k0 :: ks, k => sameK k0 k || dHas ks k
def dGetD : List D → List D → D → Option D
  | k0 :: ks, w0 :: ws, k => if sameK k0 k = true then some w0 else dGetD ks ws k
  | _, _, _ => none
def dPutK : List D → D → List D
  | [], k => [k]
  | k0 :: ks, k => if sameK k0 k = true then k0 :: ks else k0 :: dPutK ks k
def dPutW : List D → List D → D → D → List D
  | k0 :: ks, w0 :: ws, k, v => if sameK k0 k = true then v :: ws else w0 :: dPutW ks ws k v
  | _, _, _, v => [v]
def vPut : List D → List (V × V) → D → V × V → List (V × V)
  | k0 :: ks, q :: kvs, k, p => if sameK k0 k = true then (q.1, p.2) :: kvs else q :: vPut ks kvs k p
  | _, _, _, p => [p]
theorem sameK_iff {a b : D} : sameK a b = true ↔ nkD a = nkD b := by
  unfold sameK
  constructor
  · exact NestedKey.eq_of_beq _ _
  · intro h; rw [h]; exact NestedKey.beq_self _
theorem dHas_iff {ks : List D} {k : D} : dHas ks k = true ↔ nkD k ∈ ks.map nkD := by
  induction ks with
  | nil => simp [dHas]
  | cons k0 ks ih => rw [dHas, Bool.or_eq_true, ih, sameK_iff, List.map_cons, List.mem_cons, eq_comm]
theorem dPutK_same {ks : List D} {k : D} (h : dHas ks k = true) : dPutK ks k = ks := by
  induction ks with
  | nil => cases h
  | cons k0 ks ih =>
    rw [dHas, Bool.or_eq_true] at h
    unfold dPutK
    split
    · rfl
    · rename_i n
      rw [ih (h.resolve_left n)]
theorem dPutK_new {ks : List D} {k : D} (h : dHas ks k = false) : dPutK ks k = ks ++ [k] := by
  induction ks with
  | nil => rfl
  | cons k0 ks ih =>
    rw [dHas, Bool.or_eq_false_iff] at h
    unfold dPutK
    rw [if_neg (by rw [h.1]; exact Bool.false_ne_true), ih h.2]
    rfl
theorem vPut_reps1 {P : Par} {H : Hp} {B : Addr → Prop} {k : D} {p : V × V} (rk : Rep P H B k p.1) : ∀ {ks : List D} {kvs : List (V × V)}, Reps P H B ks (kvs.map fun q => q.1) → Reps P H B (dPutK ks k) ((vPut ks kvs k p).map fun q => q.1)
  | [], [], _ => Reps.one rk
  | [], q :: kvs, h => by cases (show List.map (fun q : V × V => q.1) (q :: kvs) = [] from h)
  | k0 :: ks, [], h => by obtain ⟨v, r, e, _⟩ := h; cases e
  | k0 :: ks, q :: kvs, h => by
    obtain ⟨v, r, e, h1, h2⟩ := h
    rw [List.map_cons, List.cons.injEq] at e
    obtain ⟨rfl, rfl⟩ := e
    unfold dPutK vPut
    split
    · exact Reps.cons h1 h2
    · exact Reps.cons h1 (vPut_reps1 rk h2)
theorem vPut_reps2 {P : Par} {H : Hp} {B : Addr → Prop} {k v : D} {p : V × V} (rv : Rep P H B v p.2) : ∀ {ks ws : List D} {kvs : List (V × V)}, kvs.length = ks.length → Reps P H B ws (kvs.map fun q => q.2) → Reps P H B (dPutW ks ws k v) ((vPut ks kvs k p).map fun q => q.2)
  | [], [], [], _, _ => Reps.one rv
  | [], _ :: _, [], _, h => by obtain ⟨v, r, e, _⟩ := h; cases e
  | [], _, _ :: _, hl, _ => by simp at hl
  | _ :: _, _, [], hl, _ => by simp at hl
  | k0 :: ks, [], q :: kvs, _, h => by cases (show List.map (fun q : V × V => q.2) (q :: kvs) = [] from h)
  | k0 :: ks, w0 :: ws, q :: kvs, hl, h => by
    obtain ⟨y, r, e, h1, h2⟩ := h
    rw [List.map_cons, List.cons.injEq] at e
    obtain ⟨rfl, rfl⟩ := e
    unfold dPutW vPut
    split
    · exact Reps.cons rv h2
    · exact Reps.cons h1 (vPut_reps2 rv (by simpa using hl) h2)
/-! ### ints and texts as keys -/
def keyD : D → Key
  | .int i => .inl i
  | .str z => .inr z
  | _ => .inl 0
theorem keyD_inj {a b : D} (ha : a.akey = true) (hb : b.akey = true) : keyD a = keyD b ↔ nkD a = nkD b := by
  cases a <;> first | (cases ha; done) | skip
  all_goals (cases b <;> first | (cases hb; done) | skip)
  all_goals simp [keyD, nkD]
theorem keyD_is {P : Program} {w : World} {k : D} {v : Value} (hk : k.akey = true) {x : V} {Pr : Par} {H : Hp} {B : Addr → Prop} (r : Rep Pr H B k x) (rv : RelV x v) : (mixKind P w).is (keyD k) v = true ∧ keyH w (keyD k) = (nkD k).hash w := by
  cases k <;> first | (cases hk; done) | skip
  · rename_i i
    cases (show x = V.int i from r)
    obtain ⟨t, rfl⟩ := rv
    exact ⟨keyIs_int i t, rfl⟩
  · rename_i z
    cases (show x = V.str z from r)
    obtain ⟨t, rfl⟩ := rv
    exact ⟨keyIs_str z t, rfl⟩
def mixOf : List D → List DictEntry → List (Key × Value)
  | k :: ks, e :: es => (keyD k, e.val) :: mixOf ks es
  | _, _ => []
theorem mix_pairs {P : Program} {w : World} {Pr : Par} {H : Hp} {B : Addr → Prop} : ∀ {ks : List D} {kvs : List (V × V)} {es : List DictEntry}, Ents w ks kvs es → ks.all D.akey = true → Reps Pr H B ks (kvs.map fun q => q.1) → Pairs (mixKind P w) es (mixOf ks es) ∧ ∀ e ∈ es, ∃ k, (mixKind P w).is k e.key = true ∧ e.hash = (mixKind P w).hash k
  | [], _, _, h, _, _ => by obtain ⟨rfl, rfl⟩ := h; exact ⟨.nil, fun e m => absurd m (by simp)⟩
  | k :: ks, _, _, h, ha, r => by
    obtain ⟨x, y, r', e, r'', rfl, rfl, h1, h2, h3, h4⟩ := h
    obtain ⟨v, w', e', g1, g2⟩ := r
    rw [List.map_cons, List.cons.injEq] at e'
    obtain ⟨rfl, rfl⟩ := e'
    rw [List.all_cons, Bool.and_eq_true] at ha
    obtain ⟨q1, q2⟩ := mix_pairs (P := P) h4 ha.2 g2
    obtain ⟨i1, i2⟩ := keyD_is (P := P) (w := w) ha.1 g1 h1
    refine ⟨.cons i1 rfl q1, fun e0 m => ?_⟩
    rcases List.mem_cons.mp m with m | m
    · subst m
      exact ⟨keyD k, i1, by rw [h3, ← i2]; rfl⟩
    · exact q2 e0 m
theorem mix_keys : ∀ {ks : List D} {es : List DictEntry}, es.length = ks.length → (mixOf ks es).map (·.1) = ks.map keyD
  | [], [], _ => rfl
  | [], _ :: _, h => by simp at h
  | _ :: _, [], h => by simp at h
  | k :: ks, e :: es, h => by
    unfold mixOf
    rw [List.map_cons, List.map_cons, mix_keys (by simpa using h)]
theorem ents_len {w : World} : ∀ {ks : List D} {kvs : List (V × V)} {es : List DictEntry}, Ents w ks kvs es → kvs.length = ks.length ∧ es.length = ks.length
  | [], _, _, h => by obtain ⟨rfl, rfl⟩ := h; exact ⟨rfl, rfl⟩
  | k :: ks, _, _, h => by
    obtain ⟨x, y, r', e, r'', rfl, rfl, h1, h2, h3, h4⟩ := h
    obtain ⟨a, b⟩ := ents_len h4
    exact ⟨by simp [a], by simp [b]⟩
theorem nodup_key {ks : List D} (ha : ks.all D.akey = true) (hn : (ks.map nkD).Nodup) : (ks.map keyD).Nodup := by
  induction ks with
  | nil => exact List.nodup_nil
  | cons k ks ih =>
    rw [List.map_cons, List.nodup_cons] at hn ⊢
    rw [List.all_cons, Bool.and_eq_true] at ha
    refine ⟨fun m => hn.1 ?_, ih ha.2 hn.2⟩
    obtain ⟨b, hb, e⟩ := List.mem_map.mp m
    exact List.mem_map.mpr ⟨b, hb, (keyD_inj (List.all_eq_true.mp ha.2 b hb) ha.1).mp e⟩
theorem mix_at {w : World} {k : D} (hk : k.akey = true) : ∀ {ks : List D} {kvs : List (V × V)} {es : List DictEntry}, Ents w ks kvs es → ks.all D.akey = true →
    (valueAt (mixOf ks es) (keyD k)).isSome = dHas ks k
  | [], _, _, h, _ => by obtain ⟨rfl, rfl⟩ := h; rfl
  | k0 :: ks, _, _, h, ha => by
    obtain ⟨x, y, r', e, r'', rfl, rfl, h1, h2, h3, h4⟩ := h
    rw [List.all_cons, Bool.and_eq_true] at ha
    have ih := mix_at (w := w) hk h4 ha.2
    unfold mixOf valueAt dHas
    rw [List.find?_cons]
    by_cases c : keyD k0 = keyD k
    · have : sameK k0 k = true := sameK_iff.mpr ((keyD_inj ha.1 hk).mp c)
      simp [c, this]
    · have : sameK k0 k = false := by
        cases z : sameK k0 k with
        | false => rfl
        | true => exact absurd ((keyD_inj ha.1 hk).mpr (sameK_iff.mp z)) c
      simp only [c, decide_false, this, Bool.false_or]
      exact ih
theorem mix_get {w : World} {P : Par} {H : Hp} {B : Addr → Prop} {k z : D} (hk : k.akey = true) : ∀ {ks ws : List D} {kvs : List (V × V)} {es : List DictEntry}, Ents w ks kvs es → ks.all D.akey = true → Reps P H B ws (kvs.map fun q => q.2) → dGetD ks ws k = some z →
    ∃ u v, valueAt (mixOf ks es) (keyD k) = some u ∧ RelV v u ∧ Rep P H B z v
  | [], _, _, _, h, _, _, g => by cases g
  | k0 :: ks, [], _, _, h, _, r, _ => by
    obtain ⟨x, y, r', e, r'', rfl, rfl, h1, h2, h3, h4⟩ := h
    cases (show List.map (fun q : V × V => q.2) ((x, y) :: r') = [] from r)
  | k0 :: ks, w0 :: ws, _, _, h, ha, r, g => by
    obtain ⟨x, y, r', e, r'', rfl, rfl, h1, h2, h3, h4⟩ := h
    obtain ⟨v, w', e', g1, g2⟩ := r
    rw [List.map_cons, List.cons.injEq] at e'
    obtain ⟨rfl, rfl⟩ := e'
    rw [List.all_cons, Bool.and_eq_true] at ha
    unfold dGetD at g
    unfold mixOf valueAt
    rw [List.find?_cons]
    split at g
    · rename_i c
      cases g
      rw [decide_eq_true ((keyD_inj ha.1 hk).mpr (sameK_iff.mp c))]
      exact ⟨_, _, rfl, h2, g1⟩
    · rename_i c
      rw [decide_eq_false fun z => c (sameK_iff.mpr ((keyD_inj ha.1 hk).mp z))]
      exact mix_get hk h4 ha.2 g2 g
def putR {K : Type} [DecidableEq K] : List (K × Value) → K → Value → List (K × Value)
  | [], k, v => [(k, v)]
  | q :: r, k, v => if q.1 = k then (q.1, v) :: r else q :: putR r k v
theorem stored_putR {K : Type} [DecidableEq K] : ∀ {l : List (K × Value)} {k : K} {v : Value}, (l.map (·.1)).Nodup → stored l k v = putR l k v
  | [], _, _, _ => rfl
  | q :: r, k, v, h => by
    rw [List.map_cons, List.nodup_cons] at h
    have ih := stored_putR (l := r) (k := k) (v := v) h.2
    unfold stored at ih ⊢
    unfold putR
    rw [List.any_cons, List.map_cons]
    by_cases c : q.1 = k
    · have nk : ∀ p ∈ r, ¬ p.1 = k := fun p hp e => h.1 (by rw [c, ← e]; exact List.mem_map.mpr ⟨p, hp, rfl⟩)
      have e : r.map (fun kv => if kv.1 = k then (kv.1, v) else kv) = r := by
        have : r.map (fun kv => if kv.1 = k then (kv.1, v) else kv) = r.map id := List.map_congr_left fun p hp => by rw [if_neg (nk p hp)]; rfl
        rw [this, List.map_id]
      simp only [c, decide_true, Bool.true_or, if_true, e]
    · simp only [c, decide_false, Bool.false_or, if_false]
      rw [← ih]
      split <;> rfl
theorem mix_back {P : Program} {w : World} {k : D} {x y : V} {v : Value} (hk : k.akey = true) {Pr : Par} {H : Hp} {B : Addr → Prop} (rk : Rep Pr H B k x) (ry : RelV y v) : ∀ {ks : List D} {kvs : List (V × V)} {es es' : List DictEntry}, Ents w ks kvs es → ks.all D.akey = true → Reps Pr H B ks (kvs.map fun q => q.1) → Pairs (mixKind P w) es' (putR (mixOf ks es) (keyD k) v) →
    (∀ e ∈ es', ∃ k, (mixKind P w).is k e.key = true ∧ e.hash = (mixKind P w).hash k) → Ents w (dPutK ks k) (vPut ks kvs k (x, y)) es' := by
  have one : ∀ {k : D} {x : V} {e : DictEntry}, k.akey = true → Rep Pr H B k x → (mixKind P w).is (keyD k) e.key = true → (∃ k, (mixKind P w).is k e.key = true ∧ e.hash = (mixKind P w).hash k) → RelV x e.key ∧ e.hash = (nkD k).hash w := by
    intro k x e ha r hi hh
    obtain ⟨k', i', h'⟩ := hh
    have ek : k' = keyD k := (mixKind P w).inj _ _ _ i' hi
    subst ek
    have rel := keyIs_rel (show keyIs (keyD k) e.key = true from hi)
    cases k <;> first | (cases ha; done) | skip
    · rename_i i
      cases (show x = V.int i from r)
      exact ⟨rel, h'⟩
    · rename_i z
      cases (show x = V.str z from r)
      exact ⟨rel, h'⟩
  intro ks
  induction ks with
  | nil =>
    intro kvs es es' h _ _ hp hh
    obtain ⟨rfl, rfl⟩ := h
    have hp : Pairs (mixKind P w) es' [(keyD k, v)] := hp
    cases hp with
    | cons i1 i2 t =>
      cases t
      obtain ⟨a, b⟩ := one hk rk i1 (hh _ (by simp))
      exact ⟨_, _, _, _, _, rfl, rfl, a, by rw [i2]; exact ry, b, rfl, rfl⟩
  | cons k0 ks ih =>
    intro kvs es es' h ha r hp hh
    obtain ⟨x0, y0, r', e, r'', rfl, rfl, h1, h2, h3, h4⟩ := h
    obtain ⟨v0, w', e', g1, g2⟩ := r
    rw [List.map_cons, List.cons.injEq] at e'
    obtain ⟨rfl, rfl⟩ := e'
    rw [List.all_cons, Bool.and_eq_true] at ha
    unfold mixOf putR at hp
    unfold dPutK vPut
    by_cases c : sameK k0 k = true
    · rw [if_pos ((keyD_inj ha.1 hk).mpr (sameK_iff.mp c))] at hp
      rw [if_pos c, if_pos c]
      cases hp with
      | @cons e1 _ es1 _ i1 i2 t =>
        obtain ⟨a, b⟩ := one ha.1 g1 i1 (hh _ (by simp))
        refine ⟨_, _, _, _, _, rfl, rfl, a, by rw [i2]; exact ry, b, ?_⟩
        have rest : ∀ {ks : List D} {kvs : List (V × V)} {es es1 : List DictEntry}, Ents w ks kvs es → ks.all D.akey = true → Reps Pr H B ks (kvs.map fun q => q.1) → Pairs (mixKind P w) es1 (mixOf ks es) → (∀ e ∈ es1, ∃ k, (mixKind P w).is k e.key = true ∧ e.hash = (mixKind P w).hash k) → Ents w ks kvs es1 := by
          intro ks
          induction ks with
          | nil =>
            intro kvs es es1 h _ _ hp _
            obtain ⟨rfl, rfl⟩ := h
            cases hp
            exact ⟨rfl, rfl⟩
          | cons k0 ks ih =>
            intro kvs es es1 h ha r hp hh
            obtain ⟨x0, y0, r', e, r'', rfl, rfl, h1, h2, h3, h4⟩ := h
            obtain ⟨v0, w', e', g1, g2⟩ := r
            rw [List.map_cons, List.cons.injEq] at e'
            obtain ⟨rfl, rfl⟩ := e'
            rw [List.all_cons, Bool.and_eq_true] at ha
            cases hp with
            | cons i1 i2 t =>
              obtain ⟨a, b⟩ := one ha.1 g1 i1 (hh _ (by simp))
              exact ⟨_, _, _, _, _, rfl, rfl, a, by rw [i2]; exact h2, b, ih h4 ha.2 g2 t fun e m => hh e (List.mem_cons_of_mem _ m)⟩
        exact rest h4 ha.2 g2 t fun e m => hh e (List.mem_cons_of_mem _ m)
    · rw [if_neg fun z => c (sameK_iff.mpr ((keyD_inj ha.1 hk).mp z))] at hp
      rw [if_neg c, if_neg c]
      cases hp with
      | cons i1 i2 t =>
        obtain ⟨a, b⟩ := one ha.1 g1 i1 (hh _ (by simp))
        exact ⟨_, _, _, _, _, rfl, rfl, a, by rw [i2]; exact h2, b, ih h4 ha.2 g2 t fun e m => hh e (List.mem_cons_of_mem _ m)⟩
/-! ### tuples as keys -/
mutual
theorem nested_of {P : Par} {X : Cx} {pins : List (Addr × Obj)} {σ : L2.St} {H : Hp} {s : Shared} (I : Inv X pins σ H s) (eK : P.K = X.K) {B : Addr → Prop} : ∀ (n : Nat) (d : D) (v : V) (u : Value), d.kok n = true → Rep P H B d v → RelV v u → NestedIs s.heap (nkD d) u ∧ (nkD d).depth ≤ n
  | _, .int i, v, u, _, r, ru => by
    cases (show v = V.int i from r)
    obtain ⟨t, rfl⟩ := ru
    exact ⟨.int i t, by simp [nkD, NestedKey.depth]⟩
  | _, .str z, v, u, _, r, ru => by
    cases (show v = V.str z from r)
    obtain ⟨t, rfl⟩ := ru
    exact ⟨.text z t, by simp [nkD, NestedKey.depth]⟩
  | n + 1, .tup ds, v, u, h, r, ru => by
    obtain ⟨a, vs, rfl, hs, rs⟩ := r
    cases ru
    rw [eK] at hs
    obtain ⟨its, rv, ⟨o, ho, hc, m, hd⟩, _⟩ := I.tuple hs
    obtain ⟨q1, q2⟩ := nesteds_of I eK n ds vs its (by simpa [D.kok] using h) rs rv
    refine ⟨.tup ho hc hd (by simpa using q1), ?_⟩
    simp only [nkD, NestedKey.depth]
    omega
  | 0, .tup _, _, _, h, _, _ => by simp [D.kok] at h
  | n, .non, _, _, h, _, _ => by cases n <;> simp [D.kok] at h
  | n, .bl _, _, _, h, _, _ => by cases n <;> simp [D.kok] at h
  | n, .lst _, _, _, h, _, _ => by cases n <;> simp [D.kok] at h
  | n, .dic _ _, _, _, h, _, _ => by cases n <;> simp [D.kok] at h
  | n, .obj _ _ _, _, _, h, _, _ => by cases n <;> simp [D.kok] at h
  | n, .row, _, _, h, _, _ => by cases n <;> simp [D.kok] at h
  | n, .cell _ _, _, _, h, _, _ => by cases n <;> simp [D.kok] at h
  | n, .fn _, _, _, h, _, _ => by cases n <;> simp [D.kok] at h
  | n, .lam _, _, _, h, _, _ => by cases n <;> simp [D.kok] at h
theorem nesteds_of {P : Par} {X : Cx} {pins : List (Addr × Obj)} {σ : L2.St} {H : Hp} {s : Shared} (I : Inv X pins σ H s) (eK : P.K = X.K) {B : Addr → Prop} : ∀ (n : Nat) (d : List D) (v : List V) (u : List Value), D.koks n d = true → Reps P H B d v → Vals v u → NestedAll s.heap (nkDs d) u ∧ NestedKey.depthAll (nkDs d) ≤ n
  | _, [], _, _, _, r, ru => by
    cases (show _ = [] from r)
    cases ru
    exact ⟨.nil, by simp [nkDs, NestedKey.depthAll]⟩
  | n, d :: ds, _, _, h, r, ru => by
    obtain ⟨v, w, rfl, h1, h2⟩ := r
    cases ru with
    | cons r1 r2 =>
      have h : D.kok n d = true ∧ D.koks n ds = true := by simpa [D.koks] using h
      obtain ⟨a, b⟩ := nested_of I eK n d v _ h.1 h1 r1
      obtain ⟨a2, b2⟩ := nesteds_of I eK n ds w _ h.2 h2 r2
      refine ⟨.cons a a2, ?_⟩
      simp only [nkDs, NestedKey.depthAll]
      omega
end
theorem tkey_is {P : Par} {X : Cx} {pins : List (Addr × Obj)} {σ : L2.St} {H : Hp} {s : Shared} (I : Inv X pins σ H s) (eK : P.K = X.K) {B : Addr → Prop} {d : D} {v : V} {u : Value} (h : d.tkey = true) (r : Rep P H B d v) (ru : RelV v u) : ∃ a, v = .ref a ∧ u = .ref a ∧ (nestedKind X.prog X.w).is s.heap (nkD d) a := by
  cases d <;> first | (cases h; done) | skip
  rename_i ds
  have q := nested_of I eK 8 (.tup ds) v u h r ru
  obtain ⟨a, vs, rfl, _, _⟩ := r
  cases ru
  exact ⟨a, rfl, rfl, q⟩
def refOf : Value → Addr
  | .ref a => a
  | _ => 0
def triOf : List D → List DictEntry → List (NestedKey × Addr × Value)
  | k :: ks, e :: es => (nkD k, refOf e.key, e.val) :: triOf ks es
  | _, _ => []
section
variable {P : Par} {X : Cx} {pins : List (Addr × Obj)} {σ : L2.St} {H : Hp} {s : Shared} {B : Addr → Prop}
theorem tri_ok (I : Inv X pins σ H s) (eK : P.K = X.K) : ∀ {ks : List D} {kvs : List (V × V)} {es : List DictEntry}, Ents X.w ks kvs es → ks.all D.tkey = true → Reps P H B ks (kvs.map fun q => q.1) → es = (triOf ks es).map (entryOfKey (nestedKind X.prog X.w)) ∧ (∀ x ∈ triOf ks es, (nestedKind X.prog X.w).is s.heap x.1 x.2.1) ∧ (triOf ks es).map (·.1) = ks.map nkD
  | [], _, _, h, _, _ => by obtain ⟨rfl, rfl⟩ := h; exact ⟨rfl, fun x m => absurd m (by simp [triOf]), rfl⟩
  | k :: ks, _, _, h, ha, r => by
    obtain ⟨x, y, r', e, r'', rfl, rfl, h1, h2, h3, h4⟩ := h
    obtain ⟨v, w', e', g1, g2⟩ := r
    rw [List.map_cons, List.cons.injEq] at e'
    obtain ⟨rfl, rfl⟩ := e'
    rw [List.all_cons, Bool.and_eq_true] at ha
    obtain ⟨q1, q2, q3⟩ := tri_ok I eK h4 ha.2 g2
    obtain ⟨a, _, ea, hi⟩ := tkey_is I eK ha.1 g1 h1
    unfold triOf
    refine ⟨?_, fun z m => ?_, ?_⟩
    · rw [List.map_cons, ← q1]
      congr 1
      obtain ⟨eh, ek, ev⟩ := e
      have ea : ek = .ref a := ea
      have h3 : eh = (nkD k).hash X.w := h3
      subst ea h3
      rfl
    · rcases List.mem_cons.mp m with m | m
      · subst m
        show (nestedKind X.prog X.w).is s.heap (nkD k) (refOf e.key)
        rw [ea]
        exact hi
      · exact q2 z m
    · rw [List.map_cons, List.map_cons, q3]
theorem tri_at {w : World} {k : D} : ∀ {ks : List D} {kvs : List (V × V)} {es : List DictEntry}, Ents w ks kvs es → (valueAt (pairsH (triOf ks es)) (nkD k)).isSome = dHas ks k
  | [], _, _, h => by obtain ⟨rfl, rfl⟩ := h; rfl
  | k0 :: ks, _, _, h => by
    obtain ⟨x, y, r', e, r'', rfl, rfl, h1, h2, h3, h4⟩ := h
    have ih := tri_at (w := w) (k := k) h4
    show ((((nkD k0, e.val) :: pairsH (triOf ks r'')).find? _).map _).isSome = _
    unfold dHas
    rw [List.find?_cons]
    by_cases c : nkD k0 = nkD k
    · simp [c, sameK_iff.mpr c]
    · have : sameK k0 k = false := by
        cases z : sameK k0 k with
        | false => rfl
        | true => exact absurd (sameK_iff.mp z) c
      simp only [c, decide_false, this, Bool.false_or]
      exact ih
theorem tri_get {w : World} {k z : D} : ∀ {ks ws : List D} {kvs : List (V × V)} {es : List DictEntry}, Ents w ks kvs es → Reps P H B ws (kvs.map fun q => q.2) → dGetD ks ws k = some z →
    ∃ u v, valueAt (pairsH (triOf ks es)) (nkD k) = some u ∧ RelV v u ∧ Rep P H B z v
  | [], _, _, _, h, _, g => by cases g
  | k0 :: ks, [], _, _, h, r, _ => by
    obtain ⟨x, y, r', e, r'', rfl, rfl, h1, h2, h3, h4⟩ := h
    cases (show List.map (fun q : V × V => q.2) ((x, y) :: r') = [] from r)
  | k0 :: ks, w0 :: ws, _, _, h, r, g => by
    obtain ⟨x, y, r', e, r'', rfl, rfl, h1, h2, h3, h4⟩ := h
    obtain ⟨v, w', e', g1, g2⟩ := r
    rw [List.map_cons, List.cons.injEq] at e'
    obtain ⟨rfl, rfl⟩ := e'
    unfold dGetD at g
    show ∃ u v, (((nkD k0, e.val) :: pairsH (triOf ks r'')).find? _).map _ = some u ∧ _
    rw [List.find?_cons]
    split at g
    · rename_i c
      cases g
      rw [decide_eq_true (sameK_iff.mp c)]
      exact ⟨_, _, rfl, h2, g1⟩
    · rename_i c
      rw [decide_eq_false fun z => c (sameK_iff.mpr z)]
      exact tri_get h4 g2 g
def putH3 : List (NestedKey × Addr × Value) → NestedKey → Addr → Value → List (NestedKey × Addr × Value)
  | [], k, a, v => [(k, a, v)]
  | q :: r, k, a, v => if q.1 = k then (q.1, q.2.1, v) :: r else q :: putH3 r k a v
theorem stored_putH : ∀ {l : List (NestedKey × Addr × Value)} {k : NestedKey} {a : Addr} {v : Value}, (l.map (·.1)).Nodup → storedH l k a v = putH3 l k a v
  | [], _, _, _, _ => rfl
  | q :: r, k, a, v, h => by
    rw [List.map_cons, List.nodup_cons] at h
    have ih := stored_putH (l := r) (k := k) (a := a) (v := v) h.2
    unfold storedH atKey at ih ⊢
    unfold putH3
    rw [List.find?_cons, List.map_cons]
    by_cases c : q.1 = k
    · have nk : ∀ p ∈ r, ¬ p.1 = k := fun p hp e => h.1 (by rw [c, ← e]; exact List.mem_map.mpr ⟨p, hp, rfl⟩)
      have e : r.map (putAt k v) = r := by
        have : r.map (putAt k v) = r.map id := List.map_congr_left fun p hp => by unfold putAt; rw [if_neg (nk p hp)]; rfl
        rw [this, List.map_id]
      have e0 : putAt k v q = (q.1, q.2.1, v) := by unfold putAt; rw [if_pos c]
      simp only [c, decide_true, if_true, e, e0]
      rfl
    · have e0 : putAt k v q = q := by unfold putAt; rw [if_neg c]
      simp only [c, decide_false, if_false, e0]
      rw [← ih]
      split <;> rfl
theorem tri_back {k : D} {x y : V} {a : Addr} {v : Value} (rx : x = V.ref a) (ry : RelV y v) {prog : Program} {w : World} : ∀ {ks : List D} {kvs : List (V × V)} {es : List DictEntry}, Ents w ks kvs es → (∀ e ∈ es, e.key = .ref (refOf e.key)) → Ents w (dPutK ks k) (vPut ks kvs k (x, y)) ((putH3 (triOf ks es) (nkD k) a v).map (entryOfKey (nestedKind prog w)))
  | [], _, _, h, _ => by
    obtain ⟨rfl, rfl⟩ := h
    subst rx
    exact ⟨_, _, _, _, _, rfl, rfl, rfl, ry, rfl, rfl, rfl⟩
  | k0 :: ks, _, _, h, hr => by
    obtain ⟨x0, y0, r', e, r'', rfl, rfl, h1, h2, h3, h4⟩ := h
    have he := hr e List.mem_cons_self
    have same : ∀ {ks : List D} {kvs : List (V × V)} {es : List DictEntry}, Ents w ks kvs es → (∀ e ∈ es, e.key = .ref (refOf e.key)) → (triOf ks es).map (entryOfKey (nestedKind prog w)) = es := by
      intro ks
      induction ks with
      | nil => intro kvs es h _; obtain ⟨rfl, rfl⟩ := h; rfl
      | cons k0 ks ih =>
        intro kvs es h hr
        obtain ⟨x0, y0, r', e, r'', rfl, rfl, h1, h2, h3, h4⟩ := h
        unfold triOf
        rw [List.map_cons, ih h4 fun e m => hr e (List.mem_cons_of_mem _ m)]
        congr 1
        have he := hr e List.mem_cons_self
        obtain ⟨eh, ek, ev⟩ := e
        have h3 : eh = (nkD k0).hash w := h3
        have he : ek = .ref (refOf ek) := he
        subst h3
        show (⟨(nkD k0).hash w, .ref (refOf ek), ev⟩ : DictEntry) = _
        rw [← he]
    unfold triOf putH3 dPutK vPut
    by_cases c : sameK k0 k = true
    · rw [if_pos (sameK_iff.mp c), if_pos c, if_pos c, List.map_cons, same h4 fun e m => hr e (List.mem_cons_of_mem _ m)]
      exact ⟨_, _, _, _, _, rfl, rfl, by show RelV x0 (.ref (refOf e.key)); rw [← he]; exact h1, ry, rfl, h4⟩
    · rw [if_neg fun z => c (sameK_iff.mpr z), if_neg c, if_neg c, List.map_cons]
      exact ⟨_, _, _, _, _, rfl, rfl, by show RelV x0 (.ref (refOf e.key)); rw [← he]; exact h1, h2, rfl, tri_back rx ry h4 fun e m => hr e (List.mem_cons_of_mem _ m)⟩
end
end Ev

namespace Ev
open PySem PySem.Spec PyProof.Rows L2

section
variable {X : Cx} {Tb : Tbs} {ra : RA Tb} {E : XK} {pins : List (Addr × Obj)} {σ : L2.St} {H : Hp} {s : Shared}
theorem dic_raw (I : Inv X pins σ H s) {a : Addr} {o : HO} {ks : List D} {kvs : List (V × V)} (h : H a = some o) (d : DicAt X.w a ks kvs o) :
    ∃ es ep, s.heap.DictRaw a es ep ∧ (a == sysModules) = false ∧ Ents X.w ks kvs es.toList ∧ (ks.all D.akey = true ∨ ks.all D.tkey = true) ∧ (ks.map nkD).Nodup ∧ es.size ≤ sizeLine := by
  rcases d with ⟨rfl, rfl, rfl⟩ | ⟨_, es, ep, rfl, h1, h2, h3, h4, h5⟩
  · obtain ⟨z, hd, vs0, r0, o, es, ep, ho, hc, hdat, _, hp, _⟩ := dk_of I.hok h
    cases r0
    generalize hl : es.toList = l at hp
    cases hp
    refine ⟨es, ep, ⟨o, ho, hc, hdat⟩, hd, ⟨rfl, hl⟩, .inl rfl, List.nodup_nil, ?_⟩
    have : es.size = 0 := by rw [← Array.length_toList, hl]; rfl
    rw [this]
    exact Nat.zero_le _
  · exact ⟨es, ep, (I.hok a _ h).1, h1, h2, h3, h4, h5⟩
/-- a dict of ints and texts, of tuples: which one a key may be asked of -/
def kOk (ks : List D) (k : D) : Bool := (k.akey && ks.all D.akey) || (k.tkey && ks.all D.tkey)
theorem mixDict {a : Addr} {es : Array DictEntry} {ep : Nat} {ks : List D} {kvs : List (V × V)} {P : Par} {B : Addr → Prop} (hr : s.heap.DictRaw a es ep) (he : Ents X.w ks kvs es.toList) (ha : ks.all D.akey = true) (hn : (ks.map nkD).Nodup) (r : Reps P H B ks (kvs.map fun q => q.1)) :
    s.heap.DictOf (mixKind X.prog X.w) a (mixOf ks es.toList) := by
  obtain ⟨o, ho, hc, hd⟩ := hr
  obtain ⟨p, k⟩ := mix_pairs (P := X.prog) he ha r
  refine ⟨o, es, ep, ho, hc, hd, fun e m => k e (by simpa using m), p, ?_⟩
  rw [mix_keys (ents_len he).2]
  exact nodup_key ha hn
theorem triDict (I : Inv X pins σ H s) {a : Addr} {es : Array DictEntry} {ep : Nat} {ks : List D} {kvs : List (V × V)} {P : Par} (eK : P.K = X.K) {B : Addr → Prop} (hr : s.heap.DictRaw a es ep) (he : Ents X.w ks kvs es.toList) (ha : ks.all D.tkey = true) (hn : (ks.map nkD).Nodup) (r : Reps P H B ks (kvs.map fun q => q.1)) :
    s.heap.DictOfH (nestedKind X.prog X.w) a (triOf ks es.toList) := by
  obtain ⟨o, ho, hc, hd⟩ := hr
  obtain ⟨q1, q2, q3⟩ := tri_ok I eK he ha r
  exact ⟨o, es, ep, ho, hc, hd, q1, q2, by rw [q3]; exact hn⟩
theorem room8 {A : Around} (hu : A.units + 64 < cLine) : A.units + 1 + 8 < cLine := by omega
/-! ### k in d -/
def xInD (neg : Bool) : D → D → Option D
  | k, .dic ks _ => if kOk ks k = true then some (.bl (neg ^^ dHas ks k)) else none
  | _, _ => none
theorem akey_rel {P : Par} {B : Addr → Prop} {k : D} {x : V} {u : Value} (hk : k.akey = true) (r : Rep P H B k x) (ru : RelV x u) : (mixKind X.prog X.w).is (keyD k) u = true := (keyD_is (P := X.prog) (w := X.w) hk r ru).1
theorem o_inD (hu : X.A.units + 64 < cLine) : OpD X ra (compareOp .In) (xInD false) := by
  refine opD_of fun pins s σ B H x y z vx vy u w Q I ru rw' rx ry e q => ?_
  unfold xInD at e
  split at e
  · rename_i k ks ws
    split at e
    · rename_i hc
      cases e
      obtain ⟨a, o, kvs, rfl, h1, dd, _, r1, r2⟩ := ry
      cases rw'
      obtain ⟨es, ep, hr, hs, he, hk, hn, hz⟩ := dic_raw I h1 dd
      rw [Bool.false_xor] at q
      unfold kOk at hc
      rw [Bool.or_eq_true, Bool.and_eq_true, Bool.and_eq_true] at hc
      rcases hc with ⟨k1, k2⟩ | ⟨k1, k2⟩
      · refine wpAny_in_of (akey_rel k1 rx ru) hs (mixDict hr he k2 hn r1).mapOf ⟨.bl _, H, I.tok _, rfl, q _ ?_⟩
        rw [mix_at k1 he k2]
        exact rfl
      · obtain ⟨b, _, rfl, hi⟩ := tkey_is I rfl k1 rx ru
        refine in_keyed (knd := nestedKind X.prog X.w) (by show X.A.in1.units + 8 < cLine; rw [Around.in1_units]; exact room8 hu) hi hs ⟨_, triDict I rfl hr he k2 hn r1, rfl⟩ ⟨.bl _, H, I.tok _, rfl, q _ ?_⟩
        rw [tri_at he]
        exact rfl
    · cases e
  · cases e
theorem o_notInD (hu : X.A.units + 64 < cLine) : OpD X ra (compareOp .NotIn) (xInD true) := by
  refine opD_of fun pins s σ B H x y z vx vy u w Q I ru rw' rx ry e q => ?_
  unfold xInD at e
  split at e
  · rename_i k ks ws
    split at e
    · rename_i hc
      cases e
      obtain ⟨a, o, kvs, rfl, h1, dd, _, r1, r2⟩ := ry
      cases rw'
      obtain ⟨es, ep, hr, hs, he, hk, hn, hz⟩ := dic_raw I h1 dd
      rw [Bool.true_xor] at q
      unfold kOk at hc
      rw [Bool.or_eq_true, Bool.and_eq_true, Bool.and_eq_true] at hc
      rcases hc with ⟨k1, k2⟩ | ⟨k1, k2⟩
      · refine wpAny_notIn_of (akey_rel k1 rx ru) hs (mixDict hr he k2 hn r1).mapOf ⟨.bl _, H, I.tok _, rfl, q _ ?_⟩
        rw [mix_at k1 he k2]
        exact rfl
      · obtain ⟨b, _, rfl, hi⟩ := tkey_is I rfl k1 rx ru
        refine notIn_keyed (knd := nestedKind X.prog X.w) (by show X.A.in1.units + 8 < cLine; rw [Around.in1_units]; exact room8 hu) hi hs ⟨_, triDict I rfl hr he k2 hn r1, rfl⟩ ⟨.bl _, H, I.tok _, rfl, q _ ?_⟩
        rw [tri_at he]
        exact rfl
    · cases e
  · cases e
/-! ### d[k] -/
def xIxDic : D → D → Option D
  | .dic ks ws, k => if kOk ks k = true then dGetD ks ws k else none
  | _, _ => none
theorem i_dic (hu : X.A.units + 64 < cLine) : IxD X ra xIxDic := by
  refine ⟨fun x y H Q => ∀ (value slice : Expr) (pins : List (Addr × Obj)) (s : Shared) (σ : L2.St) (v u : Value), Inv X pins σ H s → RelV x v → RelV y u → subscripted slice false v u = operate [v, u] (getItem v u) → wpAny (model X.prog X.w) X.A (subscriptTail value slice v u) (EP X pins σ Q) X.xe s,
    fun value slice pins s σ H x y v u Q I rx ry r hs => r value slice pins s σ v u I rx ry hs, fun B H st x y z vx vy Q b d w rx ry e q value slice pins s σ v u I rv ru hs => ?_⟩
  unfold xIxDic at e
  split at e
  · rename_i ks ws
    split at e
    · rename_i hc
      obtain ⟨a, o, kvs, rfl, h1, dd, _, r1, r2⟩ := rx
      cases rv
      obtain ⟨es, ep, hr, hsm, he, hk, hn, hz⟩ := dic_raw I h1 dd
      unfold kOk at hc
      rw [Bool.or_eq_true, Bool.and_eq_true, Bool.and_eq_true] at hc
      rcases hc with ⟨k1, k2⟩ | ⟨k1, k2⟩
      · obtain ⟨u', v', g1, g2, g3⟩ := mix_get k1 he k2 r2 e
        have hm := (mixDict hr he k2 hn r1).mapOf
        exact subscriptTail_builtinR (x := u') hm.typeIs PySem.F.slot_dict_getitem.lookup (wpAny_getItem_of (Q := fun r s' => r = u' ∧ EP X pins σ Q r s') (akey_rel k1 ry ru) hm g1 ⟨rfl, v', H, I.tok _, g2, q v' H Ext.refl w g3⟩) hs
      · obtain ⟨b', _, rfl, hi⟩ := tkey_is I rfl k1 ry ru
        obtain ⟨u', v', g1, g2, g3⟩ := tri_get he r2 e
        have hm : s.heap.DictKeyed (nestedKind X.prog X.w) a (pairsH (triOf ks es.toList)) := ⟨_, triDict I rfl hr he k2 hn r1, rfl⟩
        exact subscriptTail_builtinR (x := u') hm.typeIs PySem.F.slot_dict_getitem.lookup (getItem_keyed (Q := fun r s' => r = u' ∧ EP X pins σ Q r s') (knd := nestedKind X.prog X.w) (by show X.A.in1.units + 8 < cLine; rw [Around.in1_units]; exact room8 hu) hi hm g1 ⟨rfl, v', H, I.tok _, g2, q v' H Ext.refl w g3⟩) hs
    · cases e
  · cases e
end
end Ev

namespace Ev
open PySem PySem.Spec PyProof.Rows L2

section
variable {X : Cx} {Tb : Tbs} {ra : RA Tb} {E : XK} {pins : List (Addr × Obj)} {σ : L2.St} {H : Hp} {s : Shared}
theorem akey_put {ks : List D} {k : D} (h : ks.all D.akey = true) (hk : k.akey = true) : (dPutK ks k).all D.akey = true := by
  induction ks with
  | nil => simp [dPutK, hk]
  | cons k0 ks ih =>
    rw [List.all_cons, Bool.and_eq_true] at h
    unfold dPutK
    split
    · simp [h.1, h.2]
    · simp [h.1, ih h.2]
theorem tkey_put {ks : List D} {k : D} (h : ks.all D.tkey = true) (hk : k.tkey = true) : (dPutK ks k).all D.tkey = true := by
  induction ks with
  | nil => simp [dPutK, hk]
  | cons k0 ks ih =>
    rw [List.all_cons, Bool.and_eq_true] at h
    unfold dPutK
    split
    · simp [h.1, h.2]
    · simp [h.1, ih h.2]
theorem nodup_put {ks : List D} {k : D} (h : (ks.map nkD).Nodup) : ((dPutK ks k).map nkD).Nodup := by
  cases c : dHas ks k with
  | true => rw [dPutK_same c]; exact h
  | false =>
    rw [dPutK_new c, List.map_append]
    refine List.nodup_append.mpr ⟨h, by simp, fun a ha b hb e => ?_⟩
    simp at hb
    have : ¬ (dHas ks k = true) := by rw [c]; exact Bool.false_ne_true
    exact this (dHas_iff.mpr (by rw [← hb, ← e]; exact ha))
theorem len_put {ks : List D} {k : D} : (dPutK ks k).length ≤ ks.length + 1 ∧ dPutK ks k ≠ [] := by
  induction ks with
  | nil => simp [dPutK]
  | cons k0 ks ih =>
    unfold dPutK
    split
    · simp
    · simp [ih.1]
theorem tkey_ref {P : Par} {B : Addr → Prop} {w : World} : ∀ {ks : List D} {kvs : List (V × V)} {es : List DictEntry}, Ents w ks kvs es → ks.all D.tkey = true → Reps P H B ks (kvs.map fun q => q.1) → ∀ e ∈ es, e.key = .ref (refOf e.key)
  | [], _, _, h, _, _, e, m => by obtain ⟨rfl, rfl⟩ := h; simp at m
  | k :: ks, _, _, h, ha, r, e0, m => by
    obtain ⟨x, y, r', e, r'', rfl, rfl, h1, h2, h3, h4⟩ := h
    obtain ⟨v, w', e', g1, g2⟩ := r
    rw [List.map_cons, List.cons.injEq] at e'
    obtain ⟨rfl, rfl⟩ := e'
    rw [List.all_cons, Bool.and_eq_true] at ha
    rcases List.mem_cons.mp m with m | m
    · subst m
      cases k <;> first | (cases ha.1; done) | skip
      obtain ⟨a, vs, rfl, _, _⟩ := g1
      cases h : e0.key with
      | ref b => rfl
      | _ => rw [h] at h1; first | exact h1.elim | cases h1
    · exact tkey_ref h4 ha.2 g2 e0 m
/-- the machine's d[k] = v -/
theorem dic_set {A : Around} {EE : Value → Shared → Prop} (hu : A.units + 64 < cLine) (I : Inv X pins σ H s) {a : Addr} {o : HO} {ks : List D} {k : D} {kvs : List (V × V)} {B : Addr → Prop} {x y : V} {iv u : Value} (h : H a = some o) (dd : DicAt X.w a ks kvs o)
    (r1 : Reps (pr X ra) H B ks (kvs.map fun q => q.1)) (hc : kOk ks k = true) (hz : ks.length < SZ) (rk : Rep (pr X ra) H B k x) (rx : RelV x iv) (ry : RelV y u) {Q : Unit → Shared → Prop}
    (q : ∀ s' o', Inv X pins σ (upd H a o') s' → DicAt X.w a (dPutK ks k) (vPut ks kvs k (x, y)) o' → Q () s') : wpAny (model X.prog X.w) A (setItem (.ref a) iv u) Q EE s := by
  obtain ⟨es, ep, hr, hs, he, hk, hn, hz'⟩ := dic_raw I h dd
  have mu : Mut (H a) := by
    rw [h]
    rcases dd with ⟨_, _, rfl⟩ | ⟨_, es, ep, rfl, _⟩
    · exact trivial
    · exact trivial
  have hl := ents_len he
  have hsz : sizeLine = SZ := sz_eq
  unfold kOk at hc
  rw [Bool.or_eq_true, Bool.and_eq_true, Bool.and_eq_true] at hc
  have lp := len_put (ks := ks) (k := k)
  have fin : ∀ {h' : Heap} {t : Nat} {es' : Array DictEntry} {ep' : Nat}, Heap.SameBut a s.heap h' → h'.DictRaw a es' ep' → Ents X.w (dPutK ks k) (vPut ks kvs k (x, y)) es'.toList → ((dPutK ks k).all D.akey = true ∨ (dPutK ks k).all D.tkey = true) → Q () { s with heap := h', toks := t } := by
    intro h' t es' ep' hsb hraw he' hall
    obtain ⟨ob, ho, hx⟩ := id hraw
    refine q _ (.ext fun h => h.DictRaw a es' ep') (d_write (a := a) (ob := .ext fun h => h.DictRaw a es' ep') I mu hsb ⟨_, ho⟩ ⟨hraw, ⟨_, ho⟩, fun h1 h2 z k => z.at k⟩) (.inr ⟨lp.2, es', ep', rfl, hs, he', hall, nodup_put hn, ?_⟩)
    have := (ents_len he').2
    rw [Array.length_toList] at this
    omega
  rcases hc with ⟨k1, k2⟩ | ⟨k1, k2⟩
  · refine wpAny_setItem_pairs (akey_rel (X := X) k1 rk rx) (mixDict hr he k2 hn r1) (fun h' hm' hs' => ?_) ?_
    · obtain ⟨o', es', ep', ho, hc, hd, hke, hp, _⟩ := hm'
      rw [stored_putR (by rw [mix_keys hl.2]; exact nodup_key k2 hn)] at hp
      exact fin hs' ⟨o', ho, hc, hd⟩ (mix_back (P := X.prog) k1 rk ry he k2 r1 hp fun e m => hke e (by simpa using m)) (.inl (akey_put k2 k1))
    · have : (mixOf ks es.toList).length = ks.length := by
        have e := congrArg List.length (mix_keys (ks := ks) (es := es.toList) hl.2)
        simpa using e
      omega
  · obtain ⟨b, rfl, rfl, hi⟩ := tkey_is I rfl k1 rk rx
    have hT := triDict I rfl hr he k2 hn r1
    have q3 : (triOf ks es.toList).map (·.1) = ks.map nkD := (tri_ok I rfl he k2 r1).2.2
    refine wpAny_setItem_heap (knd := nestedKind X.prog X.w) (by show A.in1.units + 8 < cLine; rw [Around.in1_units]; exact room8 hu) hi hT (fun h' hm' hs' => ?_) ?_
    · obtain ⟨o', es', ep', ho, hc, hd, he', _, _⟩ := hm'
      rw [stored_putH (by rw [q3]; exact hn)] at he'
      exact fin hs' ⟨o', ho, hc, hd⟩ (by rw [he']; exact tri_back rfl ry he (tkey_ref he k2 r1)) (.inr (tkey_put k2 k1))
    · have : (triOf ks es.toList).length = ks.length := by
        have e := congrArg List.length q3
        simpa using e
      omega
theorem kOk_pure {ks : List D} {k : D} (h : kOk ks k = true) : k.pure = true := by
  unfold kOk at h
  rw [Bool.or_eq_true, Bool.and_eq_true, Bool.and_eq_true] at h
  rcases h with ⟨h, _⟩ | ⟨h, _⟩
  · cases k <;> first | (cases h; done) | rfl
  · cases k <;> first | (cases h; done) | skip
    have kp : ∀ (n : Nat), (∀ d : D, d.kok n = true → d.pure = true) ∧ (∀ ds : List D, D.koks n ds = true → D.pures ds = true) := by
      intro n
      induction n with
      | zero =>
        have h0 : ∀ d : D, d.kok 0 = true → d.pure = true := fun d h => by cases d <;> first | rfl | (simp [D.kok] at h)
        refine ⟨h0, fun ds => ?_⟩
        induction ds with
        | nil => intro _; rfl
        | cons d ds ih =>
          intro h
          have h : d.kok 0 = true ∧ D.koks 0 ds = true := by simpa [D.koks] using h
          simp [D.pures, h0 d h.1, ih h.2]
      | succ n ih =>
        have h0 : ∀ d : D, d.kok (n + 1) = true → d.pure = true := fun d h => by
          cases d <;> first | rfl | (simp [D.kok] at h; done) | skip
          simpa [D.pure] using ih.2 _ (by simpa [D.kok] using h)
        refine ⟨h0, fun ds => ?_⟩
        induction ds with
        | nil => intro _; rfl
        | cons d ds ih =>
          intro h
          have h : d.kok (n + 1) = true ∧ D.koks (n + 1) ds = true := by simpa [D.koks] using h
          simp [D.pures, h0 d h.1, ih h.2]
    exact (kp 8).1 _ h
/-! ### d[k] = e, of a dict of one's own -/
def sSubD (i : Nat) (mi : EM) (gm : GM) : SM := fun ρ st => (gm ρ st).bind fun q st1 => match q.2[i]? with
  | some (some (.own, .dic ks ws)) => (mi (er q.2) st1).bind fun k st2 => if kOk ks k = true ∧ ks.length < SZ then .ok (.nx, q.2.set i (some (.own, .dic (dPutK ks k) (dPutW ks ws k q.1)))) st2 else .stuck
  | _ => .stuck
theorem set_dic (hu : X.A.units + 64 < cLine) : PSet X fun o i v H Q => ∃ a ob ks k kvs B, o = .ref a ∧ H a = some ob ∧ DicAt X.w a ks kvs ob ∧ Reps (pr X ra) H B ks (kvs.map fun q => q.1) ∧ kOk ks k = true ∧ ks.length < SZ ∧ Rep (pr X ra) H B k i ∧
    ∀ o', DicAt X.w a (dPutK ks k) (vPut ks kvs k (i, v)) o' → Q (upd H a o') := by
  intro pins s σ H o i v ov iv u Q I ro ri rv ⟨a, ob, ks, k, kvs, B, eo, h, dd, r1, hc, hz, rk, q⟩
  subst eo
  cases ro
  exact dic_set hu I h dd r1 hc hz rk ri rv fun s' o' I' dd' => ⟨_, I', q o' dd'⟩
theorem ds_subD {o j e : Expr} {i : Nat} {mi : EM} {gm : GM} {p2 pos : Pos} (hu : X.A.units + 64 < cLine) (ho : PE X o (tVar i)) (hj : DE X ra E j mi) (he : DG X ra E e gm)
    (ha : ∀ v, assign (.Subscript o j p2) X.env v = (do
      let ov ← holding [v] (eval o X.env)
      let iv ← holding [v, ov] (eval j X.env)
      standAt p2
      holding [v, ov, iv] (setItem ov iv v)
      release [v, ov, iv] []) := by intro _; rfl)
    (hs : swapsWithSole [.Subscript o j p2] e pos.line X.env = pure false := by rfl) (hw : swappedStores [.Subscript o j p2] e X.env = pure none := by rfl)
    (h1 : (assignEach [.Subscript o j p2] X.env).map (·.2) = [assign (.Subscript o j p2) X.env] := by rfl) : DSt X ra E (.Assign [.Subscript o j p2] e pos) (sSubD i mi gm) := by
  refine PS.imp (ps_asg he (pg_sub ho hj (set_dic (ra := ra) hu) ha) hs hw h1) fun N σ H ⟨H0, B, τ, ρ, st, g, q⟩ => ?_
  refine ⟨H0, B, τ, ρ, st, g, SPost.ofG q fun d ρ' st1 v H1 g1 r q1 => ?_⟩
  have q1 : SPost (pr X ra) H0 B τ E N (match ρ'[i]? with
    | some (some (.own, .dic ks ws)) => (mi (er ρ') st1).bind fun k st2 => if kOk ks k = true ∧ ks.length < SZ then .ok (.nx, ρ'.set i (some (.own, .dic (dPutK ks k) (dPutW ks ws k d)))) st2 else .stuck
    | _ => .stuck) := q1
  split at q1
  · rename_i ks ws hx
    obtain ⟨a, hs, z1, z2, z3⟩ := g1.own i .own _ hx (by decide)
    refine ⟨.ref a, hs, B, er ρ', st1, g1.pre, SPost.ofE g1.ext (fun _ _ _ x => x) q1 fun kd st2 kv H2 hq e2 w2 rj q2 => ?_⟩
    clear hq
    split at q2
    · rename_i hc
      have g2 := g1.step e2 w2
      obtain ⟨a', hs', z1', z2', z3'⟩ := g2.own i .own _ hx (by decide)
      rw [hs] at hs'
      cases hs'
      obtain ⟨ob, kvs, f1, f2, f3, f4⟩ := z3'
      have rk := Rep.any (B' := fun a => (B a ∨ OwnA σ ρ' a) ∨ noC a) _ _ (kOk_pure hc.1) rj
      refine ⟨a, ob, ks, kd, kvs, _, rfl, f1, f2, f3, hc.1, hc.2, rk, fun o' dd' => ?_⟩
      have mt := dicAt_mt f2
      have nr : a ≠ ra.a := fun z => g2.notB z1' (by rw [z]; exact g2.bra)
      have x : Ext (fun b => b = a) H2 (upd H2 a o') := Ext.updMt f1 mt
      have sub : ∀ b, b = a → ((B b ∨ OwnA σ ρ' b) ∨ noC b) := fun b z => by rw [z]; exact .inl (.inr ⟨i, .own, _, hx, by decide, hs⟩)
      have rv : Rep (pr X ra) H2 (fun a => (B a ∨ OwnA σ ρ' a) ∨ noC a) d v := (r.ext e2 fun b z => by rw [z]; exact .inl g1.bra).less fun b z => z.elim id fun z => z.elim
      exact q2 σ _ (g2.mut (d' := .dic (dPutK ks kd) (dPutW ks ws kd d)) hx hs (g2.row.upd nr (.inr ⟨ob, f1, mt⟩)) ⟨o', _, upd_same, dd', (vPut_reps1 rk f3).ext x sub, (vPut_reps2 rv (by have := f3.length; simpa using this) f4).ext x sub⟩)
    · exact q2.elim
  · exact q1.elim
end
end Ev

namespace Ev
open PySem PySem.Spec PyProof.Rows L2

/-! ### displays of dicts -/
abbrev TK := L2.St → Hp → (List (V × V) → Hp → Prop) → Prop
structure PPd (X : Cx) (pos : Pos) (keys : List (Option Expr)) (values : List Expr) (t : TK) : Prop where
  run : ∀ (pins : List (Addr × Obj)) (s : Shared) (σ : L2.St) (H : Hp) (Q : List (V × V) → Hp → Prop), Inv X pins σ H s → t σ H Q →
    wpAny (model X.prog X.w) X.A (evalPairs (pairTrees keys values X.env pos)) (fun vs s' => ∃ ps H', Inv X pins σ H' s' ∧ VV ps vs ∧ Q ps H') X.xe s
abbrev KM := EE → DS → Res (List D × List D)
def kNil : KM := fun _ st => .ok ([], []) st
def kCons (a b : EM) (r : KM) : KM := fun ρ st => (a ρ st).bind fun k st1 => (b ρ st1).bind fun v st2 => (r ρ st2).bind fun q st3 => .ok (k :: q.1, v :: q.2) st3
def RK (P : Par) (B : Addr → Prop) (H : Hp) (q : List D × List D) (ps : List (V × V)) : Prop := Reps P H B q.1 (ps.map fun x => x.1) ∧ Reps P H B q.2 (ps.map fun x => x.2)
section
variable {X : Cx} {Tb : Tbs} {ra : RA Tb} {E : XK} {pos : Pos}
def tK (X : Cx) {Tb : Tbs} (ra : RA Tb) (E : XK) (m : KM) : TK := fun σ H Q => ∃ B ρ st, Pre (pr X ra) B σ ρ H st ∧ Post (pr X ra) B H E (RK (pr X ra) B) Q (m ρ st)
abbrev DK (X : Cx) {Tb : Tbs} (ra : RA Tb) (E : XK) (pos : Pos) (keys : List (Option Expr)) (values : List Expr) (m : KM) : Prop := PPd X pos keys values (tK X ra E m)
theorem dk_nil : DK X ra E pos [] [] kNil := ⟨fun pins s σ H Q I ⟨B, ρ, st, p, q⟩ => pairTrees_nil_walk ⟨[], H, I, .nil, q [] H Ext.refl p.row ⟨Reps.nil, Reps.nil⟩⟩⟩
theorem dk_cons {k v : Expr} {ks : List (Option Expr)} {vs : List Expr} {mk mv : EM} {r : KM} (hk : DE X ra E k mk) (hv : DE X ra E v mv) (hr : DK X ra E pos ks vs r) : DK X ra E pos (some k :: ks) (v :: vs) (kCons mk mv r) :=
  ⟨fun pins s σ H Q I ⟨B, ρ, st, p, q⟩ =>
    pairTrees_cons_walk (thn (hk.run pins s σ H (fun x H1 => tD X ra E mv σ H1 fun y H2 => tK X ra E r σ H2 fun ps H3 => Q ((x, y) :: ps) H3) I ⟨B, ρ, st, p, Post.seq q fun kd st1 kv H1 _ e1 w1 rk q1 =>
      ⟨B, ρ, st1, p.ext e1 w1, Post.seq q1 fun vd st2 vv H2 _ e2 w2 rv q2 =>
        ⟨B, ρ, st2, (p.ext e1 w1).ext e2 w2, Post.seq q2 fun qd st3 ps H3 _ e3 w3 rq q3 =>
          q3 ((kv, vv) :: ps) H3 Ext.refl w3 ⟨Reps.cons ((rk.ext e2 (sub_ra p.bra)).ext e3 (sub_ra p.bra)) rq.1, Reps.cons (rv.ext e3 (sub_ra p.bra)) rq.2⟩⟩⟩⟩)
      fun u s1 ⟨x, H1, I1, rx, q1⟩ => thn (hv.run pins s1 σ H1 _ I1 q1) fun w2 s2 ⟨y, H2, I2, ry, q2⟩ =>
      thn (hr.run pins s2 σ H2 _ I2 q2) fun ws s3 ⟨ps, H3, I3, rel, q3⟩ => ⟨(x, y) :: ps, H3, I3, .cons ⟨rx, ry⟩ rel, q3⟩)⟩
end
/-- no key twice -/
def nodupK : List D → Bool
  | [] => true
  | k :: ks => !dHas ks k && nodupK ks
theorem nodupK_iff {ks : List D} : nodupK ks = true ↔ (ks.map nkD).Nodup := by
  induction ks with
  | nil => simp [nodupK]
  | cons k ks ih =>
    rw [nodupK, Bool.and_eq_true, ih, List.map_cons, List.nodup_cons]
    refine and_congr ?_ Iff.rfl
    constructor
    · intro h m
      rw [dHas_iff.mpr m] at h
      cases h
    · intro h
      cases c : dHas ks k with
      | false => rfl
      | true => exact absurd (dHas_iff.mp c) h
/-- a dict at a new place -/
def FRd (P : Par) (B : Addr → Prop) (H : Hp) : Hp → D → V → Prop := fun H' d v => ∃ p, v = .ref p ∧ H p = none ∧ Top P H' B d p
section
variable {X : Cx} {Tb : Tbs} {ra : RA Tb} {E : XK} {pos : Pos}
def tFd (X : Cx) {Tb : Tbs} (ra : RA Tb) (E : XK) (m : EM) : TE := fun σ H Q => ∃ B ρ st, Pre (pr X ra) B σ ρ H st ∧ Post (pr X ra) B H E (FRd (pr X ra) B H) Q (m ρ st)
/-- an expression that makes a new dict -/
abbrev DFd (X : Cx) {Tb : Tbs} (ra : RA Tb) (E : XK) (e : Expr) (m : EM) : Prop := PE X e (tFd X ra E m)
theorem de_freshd {e : Expr} {m : EM} (h : DFd X ra E e m) : DE X ra E e m :=
  PE.imp h fun σ H Q ⟨B, ρ, st, p, q⟩ => ⟨B, ρ, st, p, by
    revert q
    cases m ρ st with
    | ok d st1 => exact fun q v H' e w ⟨a, ev, hn, ht⟩ => q v H' e w (by rw [ev]; exact ht.rep (p.notB hn))
    | exc c fs st1 => exact fun q => q
    | stuck => exact fun q => q⟩
theorem df_dict0 : DFd X ra E (.Dict [] [] pos) (cCon (.dic [] [])) :=
  PE.imp pe_dnewK fun σ H Q ⟨B, ρ, st, p, q⟩ => fun d hd => q (.ref d) _ (Ext.new hd) (p.row.new hd) ⟨d, rfl, hd, _, [], upd_same, .inl ⟨rfl, rfl, rfl⟩, Reps.nil, Reps.nil⟩
/-- what atoms and values carry -/
def mixL : List D → List Value → List (Key × Value)
  | k :: ks, v :: vs => (keyD k, v) :: mixL ks vs
  | _, _ => []
theorem mixL_keys : ∀ {ks : List D} {vs : List Value}, vs.length = ks.length → (mixL ks vs).map (·.1) = ks.map keyD
  | [], [], _ => rfl
  | [], _ :: _, h => by simp at h
  | _ :: _, [], h => by simp at h
  | k :: ks, v :: vs, h => by unfold mixL; rw [List.map_cons, List.map_cons, mixL_keys (by simpa using h)]
theorem carry_mix {P : Par} {B : Addr → Prop} {H : Hp} : ∀ {ks : List D} {ps : List (V × V)} {ws : List (Value × Value)}, VV ps ws → ks.all D.akey = true → Reps P H B ks (ps.map fun x => x.1) → Carries (mixKind X.prog X.w) ws (mixL ks (ws.map (·.2))) ∧ ws.length = ks.length
  | [], ps, ws, r, _, rk => by
    have : ps = [] := by simpa using (show ps.map _ = [] from rk)
    subst this
    cases r
    exact ⟨True.intro, rfl⟩
  | k :: ks, ps, ws, r, ha, rk => by
    obtain ⟨v, w', e', g1, g2⟩ := rk
    cases ps with
    | nil => cases e'
    | cons q ps =>
      rw [List.map_cons, List.cons.injEq] at e'
      obtain ⟨rfl, rfl⟩ := e'
      rw [List.all_cons, Bool.and_eq_true] at ha
      cases r with
      | @cons _ b _ bs h t =>
        obtain ⟨c1, c2⟩ := carry_mix t ha.2 g2
        exact ⟨⟨akey_rel (X := X) ha.1 g1 h.1, rfl, c1⟩, by simp [c2]⟩
theorem stored_new {K : Type} [DecidableEq K] {acc : List (K × Value)} {k : K} {v : Value} (h : k ∉ acc.map (·.1)) : stored acc k v = acc ++ [(k, v)] := by
  unfold stored
  rw [if_neg]
  intro z
  rw [List.any_eq_true] at z
  obtain ⟨q, hq, e⟩ := z
  exact h (List.mem_map.mpr ⟨q, hq, by simpa using e⟩)
theorem merged_new {K : Type} [DecidableEq K] : ∀ {rs acc : List (K × Value)}, ((acc ++ rs).map (·.1)).Nodup → merged acc rs = acc ++ rs
  | [], acc, _ => by simp [merged]
  | q :: rs, acc, h => by
    have hn : q.1 ∉ acc.map (·.1) := by
      rw [List.map_append, List.nodup_append] at h
      intro m
      exact h.2.2 _ m q.1 (by simp) rfl
    show merged (stored acc q.1 q.2) rs = _
    rw [stored_new hn, merged_new (by simpa using h)]
    simp
theorem ents_mixL {P : Par} {B : Addr → Prop} {H : Hp} {w : World} {prog : Program} : ∀ {ks : List D} {ps : List (V × V)} {ws : List (Value × Value)} {es : List DictEntry}, VV ps ws → ks.all D.akey = true → Reps P H B ks (ps.map fun x => x.1) → Pairs (mixKind prog w) es (mixL ks (ws.map (·.2))) → (∀ e ∈ es, ∃ k, (mixKind prog w).is k e.key = true ∧ e.hash = (mixKind prog w).hash k) → Ents w ks ps es
  | [], ps, ws, es, r, _, rk, hp, _ => by
    have : ps = [] := by simpa using (show ps.map _ = [] from rk)
    subst this
    cases r
    cases hp
    exact ⟨rfl, rfl⟩
  | k :: ks, ps, ws, es, r, ha, rk, hp, hh => by
    obtain ⟨v, w', e', g1, g2⟩ := rk
    cases ps with
    | nil => cases e'
    | cons q ps =>
      rw [List.map_cons, List.cons.injEq] at e'
      obtain ⟨rfl, rfl⟩ := e'
      rw [List.all_cons, Bool.and_eq_true] at ha
      cases r with
      | @cons _ b _ bs h t =>
        have hp : Pairs (mixKind prog w) es ((keyD k, b.2) :: mixL ks (bs.map (·.2))) := hp
        cases hp with
        | @cons e1 _ es1 _ i1 i2 t' =>
          obtain ⟨k', i', h'⟩ := hh e1 (by simp)
          have ek : k' = keyD k := (mixKind prog w).inj _ _ _ i' i1
          subst ek
          have rel := keyIs_rel (show keyIs (keyD k) e1.key = true from i1)
          refine ⟨q.1, q.2, ps, e1, es1, rfl, rfl, ?_, by rw [i2]; exact h.2, ?_, ents_mixL t ha.2 g2 t' fun e m => hh e (List.mem_cons_of_mem _ m)⟩
          · cases k <;> first | (cases ha.1; done) | skip
            · rw [show q.1 = _ from g1]; exact rel
            · rw [show q.1 = _ from g1]; exact rel
          · cases k <;> first | (cases ha.1; done) | skip
            · exact h'
            · exact h'
def fDispA (n : Nat) (m : KM) : EM := fun ρ st => (m ρ st).bind fun q st1 => if q.1.all D.akey = true ∧ nodupK q.1 = true ∧ q.1.length = n then .ok (.dic q.1 q.2) st1 else .stuck
theorem de_dispA {keys : List (Option Expr)} {values : List Expr} {m : KM} (hu : X.A.units + 64 < cLine) (h : DK X ra E pos keys values m) (hall : keys.all (·.isSome) = true) (hl : keys.length = values.length) (h0 : keys ≠ []) (h15 : keys.length ≤ 15)
    : DFd X ra E (.Dict keys values pos) (fDispA keys.length m) := by
  refine ⟨fun pins s σ H Q I ⟨B, ρ, st, p, q⟩ => ?_⟩
  have hn := I.hok.fresh (Nat.le_refl s.heap.objs.size)
  have I1 := I.laid (a := s.heap.objs.size) (o := .dK []) (h' := s.heap.push { cls := .type "dict", data := .dict #[] }) (t' := s.toks) (fun _ _ q => Heap.get?_push_of_some _ q) (Nat.le_refl _) (dk_empty s.heap I.big)
  have eN : Ext (isRa (pr X ra)) H (upd H s.heap.objs.size (.dK [])) := Ext.new hn
  have nra : ¬ (s.heap.objs.size = ra.a) := fun z => by obtain ⟨sa, h1, _⟩ := p.row; rw [z] at hn; rw [show H (pr X ra).ra = none from hn] at h1; cases h1
  refine wpAny_Dict_walk (knd := mixKind X.prog X.w) hall hl h0 h15 (thn (h.run pins _ σ _ (fun ps H2 => H2 s.heap.objs.size = some (.dK []) ∧ ∃ qd st1, m ρ st = .ok qd st1 ∧ (qd.1.all D.akey = true ∧ nodupK qd.1 = true ∧ qd.1.length = keys.length) ∧ RK (pr X ra) (fun a => B a ∨ a = s.heap.objs.size) H2 qd ps ∧ Ext (isRa (pr X ra)) H H2 ∧ Row (pr X ra) H2 st1 ∧ ∀ v H', Ext (isRa (pr X ra)) H H' → Row (pr X ra) H' st1 → FRd (pr X ra) B H H' (.dic qd.1 qd.2) v → Q v H') I1
    ⟨fun a => B a ∨ a = s.heap.objs.size, ρ, st, ⟨.inl p.bra, fun b z => z.elim (fun z => eN.dom b (p.dom b z)) (fun z => by rw [z, upd_same]; exact fun z => nomatch z), p.row.new hn, fun i d e => by
      obtain ⟨v, h1, h2⟩ := p.env i d e
      exact ⟨v, h1, (Rep.fresh hn _ _ h2).ext eN fun a z => .inl (by rw [z]; exact p.bra)⟩, p.len⟩, ?_⟩) fun ws s2 ⟨ps, H2, I2, rel, e, qd, st1, em, hc, rk, e2, w2, q2⟩ => ?_)
  · unfold fDispA at q
    cases hr : m ρ st with
    | ok qd st1 =>
      rw [hr] at q
      have q : Post (pr X ra) B H E (FRd (pr X ra) B H) Q (if qd.1.all D.akey = true ∧ nodupK qd.1 = true ∧ qd.1.length = keys.length then .ok (.dic qd.1 qd.2) st1 else .stuck) := q
      by_cases hc : qd.1.all D.akey = true ∧ nodupK qd.1 = true ∧ qd.1.length = keys.length
      · rw [if_pos hc] at q
        exact fun ps H2 e2 w2 rk => ⟨e2.keep _ _ upd_same (fun z => nra z.1) trivial, qd, st1, rfl, hc, rk, eN.trans e2, w2, q⟩
      · rw [if_neg hc] at q
        exact q.elim
    | exc c fs st1 =>
      rw [hr] at q
      exact fun C dd H' m e' w x => q C dd H' m (eN.trans e') w (xrep_less (fun a z => .inl z) x)
    | stuck => rw [hr] at q; exact q.elim
  · obtain ⟨c1, c2⟩ := carry_mix (X := X) rel hc.1 rk.1
    obtain ⟨z, hd, vs0, r0, dd⟩ := dk_of I2.hok e
    cases r0
    refine ⟨_, c1, dd, fun h' dd' hs => ?_⟩
    obtain ⟨o', es', ep', ho, hcc, hdat, hke, hp, _⟩ := dd'
    have hm : merged [] (mixL qd.1 (ws.map (·.2))) = mixL qd.1 (ws.map (·.2)) := by
      have := merged_new (acc := []) (rs := mixL qd.1 (ws.map (·.2))) (by rw [List.nil_append, mixL_keys (by simpa using c2)]; exact nodup_key hc.1 (nodupK_iff.mp hc.2.1))
      simpa using this
    rw [hm] at hp
    have he' := ents_mixL (prog := X.prog) rel hc.1 rk.1 hp fun e m => hke e (by simpa using m)
    have hlen := hc.2.2
    have hne : qd.1 ≠ [] := fun z => by rw [z] at hlen; exact h0 (List.length_eq_zero_iff.mp hlen.symm)
    have hraw : h'.DictRaw s.heap.objs.size es' ep' := ⟨o', ho, hcc, hdat⟩
    have hsz : es'.size ≤ sizeLine := by
      have := (ents_len he').2
      rw [Array.length_toList] at this
      have hsz : sizeLine = 16777216 := sz_eq
      omega
    have nB := p.notB hn
    have x : Ext (fun b => b = s.heap.objs.size) H2 (upd H2 s.heap.objs.size (.ext fun h => h.DictRaw s.heap.objs.size es' ep')) := Ext.updMt e trivial
    have fB : ∀ {d : List D} {v : List V}, Reps (pr X ra) H2 (fun a => B a ∨ a = s.heap.objs.size) d v → Reps (pr X ra) (upd H2 s.heap.objs.size (.ext fun h => h.DictRaw s.heap.objs.size es' ep')) B d v := fun r => (r.ext x fun b z => .inr z).less fun b z => .inl z
    exact ⟨.ref s.heap.objs.size, _, d_write (a := s.heap.objs.size) (ob := .ext fun h => h.DictRaw s.heap.objs.size es' ep') I2 (by rw [e]; exact True.intro) hs ⟨_, ho⟩ ⟨hraw, ⟨_, ho⟩, fun h1 h2 z k => z.at k⟩, rfl,
      q2 _ _ ⟨fun a o ha n t => by
        have ne : a ≠ s.heap.objs.size := fun z => by rw [z, hn] at ha; cases ha
        rw [upd_ne ne]; exact e2.keep a o ha n t, fun a ha => by
        by_cases z : a = s.heap.objs.size
        · rw [z, upd_same]; exact fun z => nomatch z
        · rw [upd_ne z]; exact e2.dom a ha⟩ (w2.upd nra (.inr ⟨_, e, trivial⟩)) ⟨s.heap.objs.size, rfl, hn, _, ps, upd_same, .inr ⟨hne, es', ep', rfl, hd, he', .inl hc.1, nodupK_iff.mp hc.2.1, hsz⟩, fB rk.1, fB rk.2⟩⟩
/-- {t: v}, t a tuple -/
theorem dict_pairsH {K : Type} [DecidableEq K] {knd : HeapKind X.prog X.w K} {A : Around} {E : Value → Shared → Prop} {s : Shared} {env : Env} {keys : List (Option Expr)} {values : List Expr} {pos : Pos} {pairs : List (Sem Value × Sem Value)} {Q : Value → Shared → Prop} (hu : knd.room A)
    (hshape : (evalEachOpt keys env).zip ((evalEach values env).map fun v => do let x ← v; standAt pos; pure x) = pairs.map fun p => (some p.1, p.2)) (h0 : pairs ≠ []) (hlen : pairs.length ≤ 15)
    (h : wpAny (model X.prog X.w) A (evalPairs pairs) (fun vs s₁ => ∃ ps, CarriesH knd s₁.heap vs ps ∧ s₁.heap.DictOfH knd s.heap.objs.size [] ∧
      ∀ h' tk, h'.DictOfH knd s.heap.objs.size (storedAllH [] ps) → Heap.SameBut s.heap.objs.size s₁.heap h' → Q (.ref s.heap.objs.size) { s₁ with heap := h', toks := tk }) E
      { s with heap := s.heap.push { cls := .type "dict", data := .dict #[] } }) :
    wpAny (model X.prog X.w) A (eval (.Dict keys values pos) env) Q E s := by
  rw [arm_eval_Dict, hshape, dictDisplay_pairs pairs h0 (by omega)]
  exact wpAny_bind (wpAny_standAt (wpAny_bind (wpAny_subDictH (knd := knd) (Q := fun d s' => wpAny (model X.prog X.w) A (pure (Value.ref d)) Q E s') hu hlen
    (wpAny_mono h (fun vs s₁ h₁ => by obtain ⟨ps, hc, hm, hq⟩ := h₁; exact ⟨ps, hc, hm, fun h' tk a b => wpAny_pure (hq h' tk a b)⟩) fun _ _ e => e))))
def oneT (st : DS) : List D × List D → Res D
  | ([k], [v]) => if k.tkey = true then .ok (.dic [k] [v]) st else .stuck
  | _ => .stuck
def fDispT (k v : EM) : EM := fun ρ st => (kCons k v kNil ρ st).bind fun q st1 => oneT st1 q
theorem de_dispT {k v : Expr} {mk mv : EM} (hu : X.A.units + 64 < cLine) (hk : DE X ra E k mk) (hv : DE X ra E v mv) : DFd X ra E (.Dict [some k] [v] pos) (fDispT mk mv) := by
  have h : DK X ra E pos [some k] [v] (kCons mk mv kNil) := dk_cons hk hv dk_nil
  refine ⟨fun pins s σ H Q I ⟨B, ρ, st, p, q⟩ => ?_⟩
  have hn := I.hok.fresh (Nat.le_refl s.heap.objs.size)
  have I1 := I.laid (a := s.heap.objs.size) (o := .dK []) (h' := s.heap.push { cls := .type "dict", data := .dict #[] }) (t' := s.toks) (fun _ _ q => Heap.get?_push_of_some _ q) (Nat.le_refl _) (dk_empty s.heap I.big)
  have eN : Ext (isRa (pr X ra)) H (upd H s.heap.objs.size (.dK [])) := Ext.new hn
  have nra : ¬ (s.heap.objs.size = ra.a) := fun z => by obtain ⟨sa, h1, _⟩ := p.row; rw [z] at hn; rw [show H (pr X ra).ra = none from hn] at h1; cases h1
  refine dict_pairsH (knd := nestedKind X.prog X.w) (pairs := pairTrees [some k] [v] X.env pos) (by show X.A.units + 8 < cLine; omega) (zip_pairTrees [some k] [v] X.env pos rfl rfl) (by intro z; cases z) (by show 1 ≤ 15; omega) (thn (h.run pins _ σ _ (fun ps H2 => H2 s.heap.objs.size = some (.dK []) ∧ ∃ kd vd st1, kCons mk mv kNil ρ st = .ok ([kd], [vd]) st1 ∧ kd.tkey = true ∧ RK (pr X ra) (fun a => B a ∨ a = s.heap.objs.size) H2 ([kd], [vd]) ps ∧ Ext (isRa (pr X ra)) H H2 ∧ Row (pr X ra) H2 st1 ∧ ∀ v H', Ext (isRa (pr X ra)) H H' → Row (pr X ra) H' st1 → FRd (pr X ra) B H H' (.dic [kd] [vd]) v → Q v H') I1
    ⟨fun a => B a ∨ a = s.heap.objs.size, ρ, st, ⟨.inl p.bra, fun b z => z.elim (fun z => eN.dom b (p.dom b z)) (fun z => by rw [z, upd_same]; exact fun z => nomatch z), p.row.new hn, fun i d e => by
      obtain ⟨v, h1, h2⟩ := p.env i d e
      exact ⟨v, h1, (Rep.fresh hn _ _ h2).ext eN fun a z => .inl (by rw [z]; exact p.bra)⟩, p.len⟩, ?_⟩) fun ws s2 ⟨ps, H2, I2, rel, e, kd, vd, st1, em, hc, rk, e2, w2, q2⟩ => ?_)
  · unfold fDispT at q
    cases hr : kCons mk mv kNil ρ st with
    | ok qd st1 =>
      rw [hr] at q
      have q : Post (pr X ra) B H E (FRd (pr X ra) B H) Q (oneT st1 qd) := q
      unfold oneT at q
      split at q
      · rename_i x0 kd vd hr0
        by_cases hc : kd.tkey = true
        · rw [if_pos hc] at q
          exact fun ps H2 e2 w2 rk => ⟨e2.keep _ _ upd_same (fun z => nra z.1) trivial, kd, vd, st1, rfl, hc, rk, eN.trans e2, w2, q⟩
        · rw [if_neg hc] at q
          exact q.elim
      · exact q.elim
    | exc c fs st1 =>
      rw [hr] at q
      exact fun C dd H' m e' w x => q C dd H' m (eN.trans e') w (xrep_less (fun a z => .inl z) x)
    | stuck => rw [hr] at q; exact q.elim
  · obtain ⟨r1, r2⟩ := rk
    obtain ⟨vk, rest, er, g1, g2⟩ := r1
    obtain ⟨vv, rest', er', g1', g2'⟩ := r2
    cases ps with
    | nil => cases er
    | cons pq ps =>
      rw [List.map_cons, List.cons.injEq] at er er'
      obtain ⟨rfl, rfl⟩ := er
      obtain ⟨rfl, rfl⟩ := er'
      have hps : ps = [] := by simpa using (show ps.map _ = [] from g2)
      subst hps
      cases rel with
      | @cons _ b _ bs hh t =>
        cases t
        obtain ⟨kk, vv⟩ := b
        obtain ⟨ka, hka, hkb, hi⟩ := tkey_is I2 rfl hc g1 hh.1
        have hkb : kk = .ref ka := hkb
        subst hkb
        obtain ⟨z, hd, vs0, r0, dd⟩ := dk_of I2.hok e
        cases r0
        obtain ⟨o0, es0, ep0, ho0, hcc0, hdat0, _, hp0, _⟩ := dd
        have he0 : es0.toList = [] := by generalize es0.toList = l at hp0; cases hp0; rfl
        refine ⟨[(nkD kd, ka, vv)], ⟨rfl, rfl, hi, True.intro⟩, ⟨o0, es0, ep0, ho0, hcc0, hdat0, by rw [he0]; rfl, fun x m => absurd m (by simp), List.nodup_nil⟩, fun h' tk dd' hs => ?_⟩
        obtain ⟨o', es', ep', ho, hcc, hdat, he', _, _⟩ := dd'
        have he' : es'.toList = [entryOfKey (nestedKind X.prog X.w) (nkD kd, ka, vv)] := he'
        have hraw : h'.DictRaw s.heap.objs.size es' ep' := ⟨o', ho, hcc, hdat⟩
        have x : Ext (fun b => b = s.heap.objs.size) H2 (upd H2 s.heap.objs.size (.ext fun h => h.DictRaw s.heap.objs.size es' ep')) := Ext.updMt e trivial
        have fB : ∀ {d : D} {v : V}, Rep (pr X ra) H2 (fun a => B a ∨ a = s.heap.objs.size) d v → Rep (pr X ra) (upd H2 s.heap.objs.size (.ext fun h => h.DictRaw s.heap.objs.size es' ep')) B d v := fun r => (r.ext x fun b z => .inr z).less fun b z => .inl z
        have hsz : es'.size ≤ sizeLine := by
          have := congrArg List.length he'
          rw [Array.length_toList] at this
          have hsz : sizeLine = 16777216 := sz_eq
          rw [this, hsz]
          exact (by decide : (1 : Nat) ≤ 16777216)
        exact ⟨.ref s.heap.objs.size, _, d_write (a := s.heap.objs.size) (ob := .ext fun h => h.DictRaw s.heap.objs.size es' ep') I2 (by rw [e]; exact True.intro) hs ⟨_, ho⟩ ⟨hraw, ⟨_, ho⟩, fun h1 h2 z k => z.at k⟩, rfl,
          q2 _ _ ⟨fun a o ha n t => by
            have ne : a ≠ s.heap.objs.size := fun z => by rw [z, hn] at ha; cases ha
            rw [upd_ne ne]; exact e2.keep a o ha n t, fun a ha => by
            by_cases z : a = s.heap.objs.size
            · rw [z, upd_same]; exact fun z => nomatch z
            · rw [upd_ne z]; exact e2.dom a ha⟩ (w2.upd nra (.inr ⟨_, e, trivial⟩)) ⟨s.heap.objs.size, rfl, hn, _, [pq], upd_same, .inr ⟨by simp, es', ep', rfl, hd, by rw [he']; exact ⟨_, _, _, _, _, rfl, rfl, by rw [hka]; exact rfl, hh.2, rfl, rfl, rfl⟩, .inr (by simp [hc]), by simp, hsz⟩, Reps.one (fB g1), Reps.one (fB g1')⟩⟩
/-! ### x = {..}, a dict of its own -/
def sOwnD (i : Nat) (f : EM) : SM := fun ρ st => (f (er ρ) st).bind fun d st1 => match d with
  | .dic ks ws => if D.pures ks = true ∧ D.pures ws = true ∧ notLent ρ i = true then .ok (.nx, ρ.set i (some (.own, .dic ks ws))) st1 else .stuck
  | _ => .stuck
theorem ds_ownD {e : Expr} {m : EM} {i : Nat} {x : Str} {pos' : Pos} (hN : X.N.Nodup) (hi : X.N[i]? = some x) (hx : Loc X.env.scope x) (h : DFd X ra E e m) (hs : swapsWith e (some (.Name x pos')) pos.line X.env = pure false := by rfl) (hf : X.fn x = true ∨ X.env.scope.names.lookup x = some .local := by first | exact .inl rfl | exact .inr rfl | assumption) : DSt X ra E (.Assign [.Name x pos'] e pos) (sOwnD i m) := by
  refine PS.imp (ps_set hN hi hx h hs hf) fun N σ H ⟨H0, B, τ, ρ, st, g, q⟩ => ?_
  refine ⟨B, er ρ, st, g.pre, SPost.ofE g.ext (fun _ _ _ x => x) q fun d st1 v H1 hq e1 w1 r q1 => ?_⟩
  clear hq
  split at q1
  · rename_i ks ws
    split at q1
    · rename_i hc
      obtain ⟨p, rfl, hn, ob, kvs, h1, h2, h3, h4⟩ := r
      have g1 := (g.more (C := fun a => a = p) (fun a z => by rw [z]; exact hn)).step e1 w1
      exact q1 _ H1 ((g1.setOwn (d := .dic ks ws) (p := p) hc.2.2 rfl ⟨ob, kvs, h1, h2, Reps.any _ _ hc.1 h3, Reps.any _ _ hc.2.1 h4⟩).lessC fun a z => z.elim)
    · exact q1.elim
  · exact q1.elim
end
end Ev

namespace Ev
open PySem PySem.Spec PyProof.Rows L2

/-! ### a dict is walked: its keys -/
def ItR (a : Addr) (o : HO) (vs : List V) : It :=
  ⟨fun i H => H a = some o ∧ i < vs.length, fun i H v H' => H' = H ∧ vs[i]? = some v, fun i H => H a = some o ∧ i = vs.length⟩
theorem turn_raw {P : Program} {w : World} {K : PySem.W.Frag} {tg : Expr} {a it : Addr} {es : Array DictEntry} {ep : Nat} {vs : List V} (hne : a ≠ it) (hd : (a == sysModules) = false) (hv : Vals vs (es.toList.map (·.key))) :
    Turn P w K tg (ItR a (.ext fun h => h.DictRaw a es ep) vs) [it] it (fun i h => h.IsKeyIter it a i es.size ep) where
  mem := by simp
  obj := fun i h st b hb => by
    have e : b = it := by simpa using hb
    subst e
    obtain ⟨o, e, c, d⟩ := st
    exact ⟨o, e, fun v z => by rw [d] at z; cases z⟩
  keep := fun i h h' st k => by
    obtain ⟨o, e, r⟩ := st
    exact ⟨o, k it (by simp) o e, r⟩
  item := by
    intro X hP hw hK hc i pins s σ H E I hf st hg
    subst hP hw hK
    obtain ⟨ha, hi⟩ := hg
    have hr : s.heap.DictRaw a es ep := (I.hok a _ ha).1
    obtain ⟨f0, f1, f2, f3, f4, f5⟩ := hf it (by simp)
    have hl : es.size = vs.length := by
      have := hv.length
      rw [List.length_map, Array.length_toList] at this
      exact this.symm
    have hlt : i < es.size := by omega
    obtain ⟨x, hx, rx⟩ : ∃ x, vs[i]? = some x ∧ RelV x es[i].key := by
      obtain ⟨u, hu, ru⟩ := hv.get (List.getElem?_eq_getElem hi)
      refine ⟨_, List.getElem?_eq_getElem hi, ?_⟩
      have : (es.toList.map (·.key))[i]? = some es[i].key := by simp [hlt]
      rw [this] at hu
      cases hu
      exact ru
    refine wpAny_pyNext_keys_item_raw st hr hlt fun h' st' sb => ?_
    have I1 : Inv X pins σ H { s with heap := h' } := I.turned (t' := s.toks) (fun b o hb e => (sb.2 b hb).trans e) f0 f1 f3 f4 f5
    obtain ⟨o, e, c, d⟩ := id st'
    exact ⟨_, rfl, go_of (s := { s with heap := h' }) e c d (by decide) ⟨x, H, I1, rx, ⟨rfl, hx⟩, st', fun b hb => (hf b hb).1⟩⟩
  done := by
    intro X hP hw hK hc i pins s σ H E I hf st hg
    subst hP hw hK
    obtain ⟨ha, hi⟩ := hg
    have hr : s.heap.DictRaw a es ep := (I.hok a _ ha).1
    obtain ⟨f0, f1, f2, f3, f4, f5⟩ := hf it (by simp)
    have hl : es.size = vs.length := by
      have := hv.length
      rw [List.length_map, Array.length_toList] at this
      exact this.symm
    exact wpAny_pyNext_keys_end_raw (I.ok.hd hc) st hr (by omega) fun h' eb => ⟨rfl, I.turned (t' := s.toks) (fun b o hb e => eb b o hb e) f0 f1 f3 f4 f5⟩
  self := fun _ _ _ _ _ st h => wpAny_pyIter_keyiter st h
theorem ents_keys {w : World} : ∀ {ks : List D} {kvs : List (V × V)} {es : List DictEntry}, Ents w ks kvs es → Vals (kvs.map fun q => q.1) (es.map (·.key))
  | [], _, _, h => by obtain ⟨rfl, rfl⟩ := h; exact .nil
  | k :: ks, _, _, h => by
    obtain ⟨x, y, r', e, r'', rfl, rfl, h1, h2, h3, h4⟩ := h
    exact .cons h1 (ents_keys h4)
theorem ents_vals {w : World} : ∀ {ks : List D} {kvs : List (V × V)} {es : List DictEntry}, Ents w ks kvs es → Vals (kvs.map fun q => q.2) (es.map (·.val))
  | [], _, _, h => by obtain ⟨rfl, rfl⟩ := h; exact .nil
  | k :: ks, _, _, h => by
    obtain ⟨x, y, r', e, r'', rfl, rfl, h1, h2, h3, h4⟩ := h
    exact .cons h2 (ents_vals h4)
theorem reps_zip {P : Par} {H : Hp} {B : Addr → Prop} : ∀ {ks : List D} {vs : List V}, Reps P H B ks vs → ∀ t ∈ ks.zip vs, Rep P H B t.1 t.2
  | [], _, h, t, m => by rw [show _ = [] from h] at m; simp at m
  | k :: ks, _, h, t, m => by
    obtain ⟨v, r, rfl, h1, h2⟩ := h
    rw [List.zip_cons_cons] at m
    rcases List.mem_cons.mp m with m | m
    · rw [m]; exact h1
    · exact reps_zip h2 t m
theorem walks_raw {P : Par} {a : Addr} {o : HO} {ks : List D} {vs : List V} (hl : vs.length = ks.length) : Walks P (ItR a o vs) ((.cell a o, .ref a) :: ks.zip vs) ks where
  goes i H B hi t := ⟨(t (.cell a o, .ref a) List.mem_cons_self).2.1, by rw [hl]; exact hi⟩
  stops H B t := ⟨(t (.cell a o, .ref a) List.mem_cons_self).2.1, hl.symm⟩
  yields i H x H' B d t hd y := by
    obtain ⟨rfl, hx⟩ := y
    refine ⟨.inl rfl, t (d, x) (List.mem_cons_of_mem _ ?_)⟩
    have : (ks.zip vs)[i]? = some (d, x) := by rw [List.getElem?_zip_eq_some]; exact ⟨hd, hx⟩
    exact List.mem_of_getElem? this
def iRaw (te : TE) : TI := fun σ H R => te σ H fun v H1 => ∃ a es ep vs, v = .ref a ∧ H1 a = some (.ext fun h => h.DictRaw a es ep) ∧ (a == sysModules) = false ∧ Vals vs (es.toList.map (·.key)) ∧ R (ItR a (.ext fun h => h.DictRaw a es ep) vs) H1
section
variable {X : Cx} {Tb : Tbs} {ra : RA Tb} {E : XK} {a b e : Expr} {es : List Expr} {ma mb m : EM} {am : AM} {pos p : Pos} {tg : Expr}
theorem pi_raw {te : TE} (he : PE X e te) : PI X tg e (iRaw te) := by
  refine ⟨fun pins s σ H R I h => ?_⟩
  refine thn (he.run pins s σ H _ I h) fun v s1 ⟨x, H1, I1, r1, q1⟩ => ?_
  obtain ⟨a, es, ep, vs, ex, ha, hd, hv, q⟩ := q1
  subst ex
  cases r1
  have hr : s1.heap.DictRaw a es ep := (I1.hok a _ ha).1
  refine wpAny_pyIter_dict_raw hd hr ?_
  refine ⟨s1.heap.objs.size, [s1.heap.objs.size], _, _, H1, rfl, I1.kept (t' := s1.toks) fun b o e => Heap.get?_push_of_some _ e, turn_raw (Nat.ne_of_lt hr.lt_size) hd hv, ⟨_, Heap.get?_push_size _ rfl, rfl, rfl⟩, fun b hb => ?_, q⟩
  have e : b = s1.heap.objs.size := by simpa using hb
  subst e
  exact I1.fpOk (Nat.le_refl _) (I1.hok.fresh (Nat.le_refl _))
/-- for k in d, d not empty -/
def keysOf : D → Option (List D)
  | .dic (k :: ks) _ => some (k :: ks)
  | _ => none
def iDic (m : EM) : AM := fun ρ st => (m ρ st).bind fun d st1 => Res.of (keysOf d) st1
theorem di_dic (h : DE X ra E e m) : DI X ra E tg e (iDic m) :=
  PI.imp (pi_raw h) fun σ H R ⟨B, ρ, st, p, q⟩ => ⟨B, ρ, st, p, Post.seq q fun d st1 v H1 hq e1 w1 r q1 => by
    clear hq
    cases hk : keysOf d with
    | none => rw [hk] at q1; exact q1.elim
    | some ds =>
      rw [hk] at q1
      unfold keysOf at hk
      split at hk
      · rename_i k ks ws
        cases hk
        obtain ⟨a, o, kvs, rfl, h1, dd, nb, r1, r2⟩ := r
        rcases dd with ⟨z, _⟩ | ⟨_, es, ep, rfl, hs, he, _⟩
        · cases z
        · refine ⟨a, es, ep, _, rfl, h1, hs, ents_keys he, q1 _ H1 Ext.refl w1 ⟨_, walks_raw (by rw [List.length_map]; exact (ents_len he).1), fun t mt => ?_⟩⟩
          rcases List.mem_cons.mp mt with mt | mt
          · rw [mt]; exact ⟨rfl, h1, nb, trivial⟩
          · exact reps_zip r1 t mt
      · cases hk⟩
/-- a list, a tuple, a text, a dict -/
def srcD (d : D) : Option (List D) := match keysOf d with
  | some l => some l
  | none => d.src.map fun x => x.2
def iAny (m : EM) : AM := fun ρ st => (m ρ st).bind fun d st1 => Res.of (srcD d) st1
theorem di_any (h : DE X ra E e m) : DI X ra E tg e (iAny m) :=
  PI.imp (PI.or (di_dic h) (di_src h)) fun σ H R ⟨B, ρ, st, p, q⟩ => by
    unfold iAny at q
    cases hr : m ρ st with
    | ok d st1 =>
      rw [hr] at q
      have q : Post (pr X ra) B H E _ R (Res.of (srcD d) st1) := q
      unfold srcD at q
      cases hk : keysOf d with
      | some l =>
        rw [hk] at q
        exact .inl ⟨B, ρ, st, p, by unfold iDic; rw [hr]; show Post _ _ _ _ _ _ (Res.of (keysOf d) st1); rw [hk]; exact q⟩
      | none =>
        rw [hk] at q
        exact .inr ⟨B, ρ, st, p, by unfold iSrc; rw [hr]; exact q⟩
    | exc c fs st1 =>
      rw [hr] at q
      exact .inr ⟨B, ρ, st, p, by unfold iSrc; rw [hr]; exact q⟩
    | stuck => rw [hr] at q; exact q.elim
/-! ### list(d), sorted(d), len(d), max(d.values()) -/
theorem vals_of_items {vs : List V} {us : List Value} {acc : Array Value} (h : Vals vs us) (ha : ItemsOf (fun i v => us[i]? = some v) acc us.length) : Vals vs acc.toList := by
  have : acc.toList = us := by
    apply List.ext_getElem?
    intro i
    by_cases hi : i < acc.size
    · have e : acc[i]? = some acc[i] := Array.getElem?_eq_getElem hi
      rw [ha.2 i _ e, Array.getElem?_toList, e]
    · rw [Array.getElem?_toList, Array.getElem?_eq_none (by omega), List.getElem?_eq_none (by rw [← ha.1]; omega)]
  rw [this]
  exact h
def xListD : List D → Option (List D)
  | [.dic (k :: ks) _] => some (k :: ks)
  | _ => none
theorem raw_at {pins : List (Addr × Obj)} {σ : L2.St} {H : Hp} {s : Shared} (I : Inv X pins σ H s) {B : Addr → Prop} {k : D} {ks ws : List D} {v : V} {u : Value} (r : Rep (pr X ra) H B (.dic (k :: ks) ws) v) (ru : RelV v u) :
    ∃ (a : Addr) (es : Array DictEntry) (ep : Nat) (kvs : List (V × V)), u = .ref a ∧ s.heap.DictRaw a es ep ∧ (a == sysModules) = false ∧ es.size ≤ sizeLine ∧ es.size = (k :: ks).length ∧ Vals (kvs.map fun q => q.1) (es.toList.map (·.key)) ∧ Vals (kvs.map fun q => q.2) (es.toList.map (·.val)) ∧ Reps (pr X ra) H B (k :: ks) (kvs.map fun q => q.1) ∧ Reps (pr X ra) H B ws (kvs.map fun q => q.2) := by
  obtain ⟨a, o, kvs, rfl, h1, dd, nb, r1, r2⟩ := r
  cases ru
  rcases dd with ⟨z, _⟩ | ⟨_, es, ep, rfl, hs, he, _, _, hz⟩
  · cases z
  · exact ⟨a, es, ep, kvs, rfl, (I.hok a _ h1).1, hs, hz, by have := (ents_len he).2; rw [Array.length_toList] at this; exact this, ents_keys he, ents_vals he, r1, r2⟩
theorem key_items {es : Array DictEntry} {n : Nat} {acc : Array Value} (h : ItemsOf (fun i v => ∃ hi : i < es.size, v = es[i].key) acc n) (hn : n = es.size) : ItemsOf (fun i v => (es.toList.map (·.key))[i]? = some v) acc (es.toList.map (·.key)).length :=
  ⟨by rw [List.length_map, Array.length_toList, h.1, hn], fun i v e => by obtain ⟨hi, rfl⟩ := h.2 i v e; simp [hi]⟩
theorem c_listD (hcalm : X.calm = true) : CallF X ra (.type "list") xListD := by
  refine callF_of fun pins s σ B H xs zs vs us Q hb I ru rx e q => ?_
  unfold xListD at e
  split at e
  · rename_i k ks ws
    cases e
    obtain ⟨v, rfl, r⟩ := reps1 rx
    obtain ⟨u, rfl, r1⟩ := vals1' ru
    obtain ⟨a, es, ep, kvs, rfl, hr, hs, hz, hn, hv, _, rk, _⟩ := raw_at I r r1
    refine PySem.W.kdl_call (KdlSrc.rawDict (es := es) (ep := ep) hs) (I.ok.hd hcalm) hr hz fun h' tk acc' c' hk hS hacc => ?_
    have I1 : Inv X pins σ H { s with heap := h', toks := tk } := I.kept hk
    have hm := vals_of_items hv (key_items hacc rfl)
    refine ⟨.ref s.heap.objs.size, _, ?_, rfl, q _ (kvs.map fun q => q.1) (I.hok.fresh (Nat.le_refl _)) rk⟩
    exact I.laid (t' := tk) (o := .lst (kvs.map fun q => q.1)) hk (Nat.le_refl _) ⟨by rw [rk.length, ← hn]; exact hz, acc'.toList, c', hm, by rw [Array.toArray_toList]; exact hS⟩
  · cases e
mutual
theorem reads_lt {h : Heap} : ∀ {v : Value} {d : PyData} {as : List Addr}, Reads h v d as → ∀ a ∈ as, a < h.objs.size
  | _, _, _, .none, _, m => absurd m (by simp)
  | _, _, _, .bool b, _, m => absurd m (by simp)
  | _, _, _, .int i t, _, m => absurd m (by simp)
  | _, _, _, .str x t, _, m => absurd m (by simp)
  | _, _, _, .list h1 h2 h3 h4, a, m => (List.mem_cons.mp m).elim (fun e => by rw [e]; exact Heap.lt_size h1) fun m => readsAll_lt h4 a m
  | _, _, _, .tuple h1 h2 h3 h4, a, m => readsAll_lt h4 a m
  | _, _, _, .dict h1 h2 h3 h4 h5, a, m => by
    rcases List.mem_append.mp m with m | m
    · rcases List.mem_cons.mp m with e | m
      · rw [e]; exact Heap.lt_size h1
      · exact readsAll_lt h4 a m
    · exact readsAll_lt h5 a m
theorem readsAll_lt {h : Heap} : ∀ {vs : List Value} {ds : List PyData} {as : List Addr}, ReadsAll h vs ds as → ∀ a ∈ as, a < h.objs.size
  | _, _, _, .nil, _, m => absurd m (by simp)
  | _, _, _, .cons h1 h2, a, m => (List.mem_append.mp m).elim (reads_lt h1 a) (readsAll_lt h2 a)
end
def xSortedD : List D → Option (List D)
  | [.dic (k :: ks) _] => if sortable (k :: ks) = true then some (sortD (k :: ks)) else none
  | _ => none
theorem c_sortedD (hu : X.A.units + 64 < cLine) (hcalm : X.calm = true) : CallF X ra (.builtin "sorted") xSortedD := by
  refine callF_of fun pins s σ B H xs zs vs us Q hb I ru rx e q => ?_
  unfold xSortedD at e
  split at e
  · rename_i k ks ws
    split at e
    · rename_i hso
      cases e
      obtain ⟨v, rfl, r⟩ := reps1 rx
      obtain ⟨u, rfl, r1⟩ := vals1' ru
      obtain ⟨a, es, ep, kvs, rfl, hr, hs, hz, hn, hv, _, rk, _⟩ := raw_at I r r1
      refine Calls.call_function_entry PyProof.Rows.kind_sorted PyProof.Rows.plain_sorted PyProof.Rows.entry_sorted (PyProof.Rows.args_sorted1 _) ?_
      unfold Builtin.«sorted»
      refine wpAny_bind (m := checkCount "sorted" 1 1 _) (wpAny_pure ?_)
      refine wpAny_bind (PySem.W.kdu_collect (A := X.A.in1) (KdlSrc.rawDict (es := es) (ep := ep) hs) (I.ok.hd hcalm) hr hz fun h' tk acc hk hacc => ?_)
      have I1 : Inv X pins σ H { s with heap := h', toks := tk } := I.kept hk
      have hm := vals_of_items hv (key_items hacc rfl)
      have hal : acc.toList.length = es.size := by rw [Array.length_toList]; exact hacc.1
      refine wpAny_bind (wpAny_newList ?_ (by rw [hal]; exact hz))
      have hoL : (h'.push (seqObj "list" acc.toList.toArray 0)).get? h'.objs.size = some (seqObj "list" acc.toList.toArray 0) := Heap.get?_push_size _ rfl
      show wpAny _ _ _ _ _ { s with heap := h'.push (seqObj "list" acc.toList.toArray 0), toks := tk }
      obtain ⟨h1, h2, h3, h4, h5⟩ := sortable_of hso
      have I2 : Inv X pins σ H { s with heap := h'.push (seqObj "list" acc.toList.toArray 0), toks := tk } := I1.kept (t' := tk) fun b o e => Heap.get?_push_of_some _ e
      refine wpAny_bind (wpAny_holding (PySem.W.list_sort_data (s := { s with heap := h'.push (seqObj "list" acc.toList.toArray 0), toks := tk }) (R := fun u d => ∃ v, RelV v u ∧ Rep (pr X ra) H B d v) (bs := k :: ks) (enc := D.py) hoL (each_of rk hm fun d v u _ r t => ⟨v, t, r⟩) (each_of rk hm fun d v u m r t => ?_) h2 h3 (by rw [sz_eq]; exact h5) (fun d hd => ?_) fun out ho eo => ?_))
      · obtain ⟨as, r0⟩ := Dp.reads I1 _ _ u (Rep.dp d v (plains_mem h1 m) r) t
        exact ⟨as, PyProof.Rows.Reads.keeps (fun b o e => Heap.get?_push_of_some _ e) r0, fun z => absurd (reads_lt r0 _ z) (Nat.lt_irrefl _)⟩
      · have := h4 d hd
        rw [Around.in1_units]
        omega
      · obtain ⟨wo, r1, r2⟩ := of_each eo
        obtain ⟨c, hc⟩ := PyProof.Rows.sortedHeap_at (vs := acc.toList) (out := out.toArray) hoL
        have hb : ∀ b o, h'.get? b = some o → (PyProof.Rows.sortedHeap (h'.push (seqObj "list" acc.toList.toArray 0)) h'.objs.size acc.toList out.toArray).get? b = some o := fun b u e => by
          have hb : b < h'.objs.size := Heap.lt_size e
          rw [PyProof.Rows.sortedHeap_old (Nat.ne_of_lt hb) (by rw [size_push']; exact Nat.lt_succ_of_lt hb)]
          exact Heap.get?_push_of_some _ e
        refine wpAny_pure ⟨_, rfl, .ref h'.objs.size, upd H h'.objs.size (.lst wo), I1.laid (t' := tk) hb (Nat.le_refl _)
          (show ObjOk X.prog X.w _ _ _ (.lst wo) from ⟨by rw [r1.length, List.length_mergeSort, sz_eq]; exact h5, out, c, r2, hc⟩), rfl, q _ wo (I1.hok.fresh (Nat.le_refl _)) r1⟩
    · cases e
  · cases e
end
end Ev

namespace Ev
open PySem PySem.Spec PyProof.Rows L2

/-! ### min, max of a list of data -/
mutual
theorem py_inj : ∀ (d d' : D), d.plain = true → d'.plain = true → d.py = d'.py → d = d'
  | .non, d', _, h', e => by cases d' <;> simp [D.py, D.plain] at e h' ⊢
  | .bl _, d', _, h', e => by cases d' <;> simp [D.py, D.plain] at e h' ⊢; exact e
  | .int _, d', _, h', e => by cases d' <;> simp [D.py, D.plain] at e h' ⊢; exact e
  | .str _, d', _, h', e => by cases d' <;> simp [D.py, D.plain] at e h' ⊢; exact e
  | .tup xs, d', h, h', e => by
    cases d' with
    | tup ys => rw [pys_inj xs ys (by simpa [D.plain] using h) (by simpa [D.plain] using h') (by simpa [D.py] using e)]
    | _ => simp [D.py, D.plain] at e h'
  | .lst xs, d', h, h', e => by
    cases d' with
    | lst ys => rw [pys_inj xs ys (by simpa [D.plain] using h) (by simpa [D.plain] using h') (by simpa [D.py] using e)]
    | _ => simp [D.py, D.plain] at e h'
  | .dic _ _, _, h, _, _ => by simp [D.plain] at h
  | .obj _ _ _, _, h, _, _ => by simp [D.plain] at h
  | .row, _, h, _, _ => by simp [D.plain] at h
  | .cell _ _, _, h, _, _ => by simp [D.plain] at h
  | .fn _, _, h, _, _ => by simp [D.plain] at h
  | .lam _, _, h, _, _ => by simp [D.plain] at h
theorem pys_inj : ∀ (d d' : List D), D.plains d = true → D.plains d' = true → D.pys d = D.pys d' → d = d'
  | [], d', _, _, e => by cases d' <;> simp [D.pys] at e ⊢
  | x :: xs, d', h, h', e => by
    cases d' with
    | nil => simp [D.pys] at e
    | cons y ys =>
      have e : x.py = y.py ∧ D.pys xs = D.pys ys := by simpa [D.pys] using e
      have h : x.plain = true ∧ D.plains xs = true := by simpa [D.plains] using h
      have h' : y.plain = true ∧ D.plains ys = true := by simpa [D.plains] using h'
      rw [py_inj x y h.1 h'.1 e.1, pys_inj xs ys h.2 h'.2 e.2]
end
theorem pys_map : ∀ (ds : List D), D.pys ds = ds.map D.py
  | [] => rfl
  | d :: ds => by rw [D.pys, pys_map ds]; rfl
def minL (x : D) (xs : List D) : D := xs.foldl (fun a y => if PySem.W.dataLt y.py a.py = true then y else a) x
def maxL (x : D) (xs : List D) : D := xs.foldl (fun a y => if PySem.W.dataLt a.py y.py = true then y else a) x
theorem minL_py : ∀ (xs : List D) (x : D), (minL x xs).py = PySem.W.minD x.py (D.pys xs)
  | [], _ => rfl
  | y :: ys, x => by
    have := minL_py ys (if PySem.W.dataLt y.py x.py = true then y else x)
    show (minL (if PySem.W.dataLt y.py x.py = true then y else x) ys).py = PySem.W.minD (if PySem.W.dataLt y.py x.py = true then y.py else x.py) (D.pys ys)
    rw [this]
    split <;> rfl
theorem maxL_py : ∀ (xs : List D) (x : D), (maxL x xs).py = PySem.W.maxD x.py (D.pys xs)
  | [], _ => rfl
  | y :: ys, x => by
    have := maxL_py ys (if PySem.W.dataLt x.py y.py = true then y else x)
    show (maxL (if PySem.W.dataLt x.py y.py = true then y else x) ys).py = PySem.W.maxD (if PySem.W.dataLt x.py y.py = true then y.py else x.py) (D.pys ys)
    rw [this]
    split <;> rfl
theorem minL_mem : ∀ (xs : List D) (x : D), minL x xs ∈ x :: xs
  | [], _ => List.mem_cons_self
  | y :: ys, x => by
    have := minL_mem ys (if PySem.W.dataLt y.py x.py = true then y else x)
    show minL (if PySem.W.dataLt y.py x.py = true then y else x) ys ∈ _
    rcases List.mem_cons.mp this with h | h
    · rw [h]; split
      · exact List.mem_cons_of_mem _ List.mem_cons_self
      · exact List.mem_cons_self
    · exact List.mem_cons_of_mem _ (List.mem_cons_of_mem _ h)
theorem maxL_mem : ∀ (xs : List D) (x : D), maxL x xs ∈ x :: xs
  | [], _ => List.mem_cons_self
  | y :: ys, x => by
    have := maxL_mem ys (if PySem.W.dataLt x.py y.py = true then y else x)
    show maxL (if PySem.W.dataLt x.py y.py = true then y else x) ys ∈ _
    rcases List.mem_cons.mp this with h | h
    · rw [h]; split
      · exact List.mem_cons_of_mem _ List.mem_cons_self
      · exact List.mem_cons_self
    · exact List.mem_cons_of_mem _ (List.mem_cons_of_mem _ h)
def xMinL : List D → Option D
  | [.lst (x :: xs)] => if sortable (x :: xs) = true then some (minL x xs) else none
  | _ => none
def xMaxL : List D → Option D
  | [.lst (x :: xs)] => if sortable (x :: xs) = true then some (maxL x xs) else none
  | _ => none
section
variable {X : Cx} {Tb : Tbs} {ra : RA Tb} {E : XK}
theorem pick_rep {H : Hp} {B : Addr → Prop} {P : Par} {ds : List D} {ws : List V} {us : List Value} {i : Nat} {v : Value} {h : Heap} {z : D} {bs : List Addr} (hp : D.plains ds = true) (rs : Reps P H B ds ws) (rv : Vals ws us) (hi : us[i]? = some v) (hm : z ∈ ds) (hr : Reads h v z.py bs) (hd : ∀ d w u, d ∈ ds → Rep P H B d w → RelV w u → ∃ as, Reads h u d.py as) :
    ∃ w, RelV w v ∧ Rep P H B z w := by
  have hl : i < ws.length := by
    have := (List.getElem?_eq_some_iff.mp hi).1
    rw [rv.length]; exact this
  obtain ⟨u, hu, ru⟩ := rv.get (List.getElem?_eq_getElem hl)
  rw [hi] at hu
  cases hu
  obtain ⟨d, hd1, hd2⟩ := rs.getV (List.getElem?_eq_getElem hl)
  have md : d ∈ ds := List.mem_of_getElem? hd1
  obtain ⟨as, r2⟩ := hd d _ _ md hd2 ru
  have e := (PySem.Reads.unique hr _ _ r2).1
  have := py_inj z d (plains_mem hp hm) (plains_mem hp md) e
  subst this
  exact ⟨_, ru, hd2⟩
theorem alike_of {ds : List D} (h : sortable ds = true) : PySem.W.AlikeAll (D.pys ds) ∧ PyData.depthAll (D.pys ds) ≤ 32 := by
  obtain ⟨h1, h2, h3, h4, h5⟩ := sortable_of h
  clear h5
  rw [pys_map]
  refine ⟨⟨fun x hx y hy => h2 x hx y hy, fun x hx e => ?_⟩, ?_⟩
  · subst e
    rcases h3 with h3 | h3
    · obtain ⟨u, r, e⟩ := h3 _ hx; cases e
    · exact (h3 _ hx).1 rfl
  · clear h1 h2 h3 h
    induction ds with
    | nil => exact Nat.zero_le _
    | cons d ds ih =>
      rw [List.map_cons, PyData.depthAll]
      exact Nat.max_le.mpr ⟨h4 d List.mem_cons_self, ih fun d m => h4 d (List.mem_cons_of_mem _ m)⟩
theorem lst_reads {pins : List (Addr × Obj)} {σ : L2.St} {H : Hp} {s : Shared} (I : Inv X pins σ H s) {B : Addr → Prop} {xs : List D} {v : V} {u : Value} (hp : D.plains xs = true) (r : Rep (pr X ra) H B (.lst xs) v) (ru : RelV v u) :
    ∃ l vs as ws, u = .ref l ∧ s.heap.IsList l vs ∧ ReadsAll s.heap vs.toList (D.pys xs) as ∧ Vals ws vs.toList ∧ Reps (pr X ra) H B xs ws := by
  obtain ⟨as, rr⟩ := Dp.reads I _ _ u (Rep.dp (.lst xs) v (by simpa [D.plain] using hp) r) ru
  obtain ⟨l, ws, rfl, hl, _, rs⟩ := r
  cases ru
  obtain ⟨its, rv, pl, _⟩ := I.list (SqL.of (K := X.K) hl)
  have hL := pl.isList
  rw [D.py] at rr
  cases rr with
  | @list _ o vs n _ as h1 h2 h3 h4 =>
    obtain ⟨o', g1, g2, n', g3⟩ := id hL
    rw [h1] at g1
    cases g1
    rw [h3] at g3
    injection g3 with g3 _
    subst g3
    exact ⟨l, _, as, ws, rfl, hL, h4, by simpa using rv, rs⟩
theorem c_minL (hu : X.A.units + 64 < cLine) (hcalm : X.calm = true) : CallD X ra (.builtin "min") xMinL := by
  refine callD_of fun pins s σ B H xs z vs us Q I ru rx e q => ?_
  unfold xMinL at e
  split at e
  · rename_i x xs
    split at e
    · rename_i hs
      cases e
      obtain ⟨v, rfl, r⟩ := reps1 rx
      obtain ⟨u, rfl, r1⟩ := vals1' ru
      obtain ⟨h1, h2, h3, h4, h5⟩ := sortable_of hs
      obtain ⟨a1, a2⟩ := alike_of hs
      obtain ⟨l, us, as, ws, rfl, hL, hr, rv, rs⟩ := lst_reads I h1 r r1
      rw [D.pys] at hr a1 a2
      refine PySem.W.min_list_data (I.ok.hd hcalm) hL hr a1 (by omega) fun i v h' tk bs hi hv hk => ?_
      have I1 : Inv X pins σ H { s with heap := h', toks := tk } := I.kept hk
      rw [← minL_py] at hv
      obtain ⟨w, g1, g2⟩ := pick_rep h1 rs rv (by rw [Array.getElem?_toList]; exact hi) (minL_mem xs x) hv fun d w u m r t => Dp.reads I1 _ _ u (Rep.dp d w (plains_mem h1 m) r) t
      exact ⟨w, H, I1, g1, q w g2⟩
    · cases e
  · cases e
theorem c_maxL (hu : X.A.units + 64 < cLine) (hcalm : X.calm = true) : CallD X ra (.builtin "max") xMaxL := by
  refine callD_of fun pins s σ B H xs z vs us Q I ru rx e q => ?_
  unfold xMaxL at e
  split at e
  · rename_i x xs
    split at e
    · rename_i hs
      cases e
      obtain ⟨v, rfl, r⟩ := reps1 rx
      obtain ⟨u, rfl, r1⟩ := vals1' ru
      obtain ⟨h1, h2, h3, h4, h5⟩ := sortable_of hs
      obtain ⟨a1, a2⟩ := alike_of hs
      obtain ⟨l, us, as, ws, rfl, hL, hr, rv, rs⟩ := lst_reads I h1 r r1
      rw [D.pys] at hr a1 a2
      refine PySem.W.max_list_data (I.ok.hd hcalm) hL hr a1 (by omega) fun i v h' tk bs hi hv hk => ?_
      have I1 : Inv X pins σ H { s with heap := h', toks := tk } := I.kept hk
      rw [← maxL_py] at hv
      obtain ⟨w, g1, g2⟩ := pick_rep h1 rs rv (by rw [Array.getElem?_toList]; exact hi) (maxL_mem xs x) hv fun d w u m r t => Dp.reads I1 _ _ u (Rep.dp d w (plains_mem h1 m) r) t
      exact ⟨w, H, I1, g1, q w g2⟩
    · cases e
  · cases e
/-! ### len(d) -/
def xLenD : List D → Option D
  | [.dic (k :: ks) _] => some (.int ((ks.length + 1 : Nat) : Int))
  | _ => none
theorem len_body_raw {prog : Program} {w : World} {A : Around} {E : Value → Shared → Prop} {s : Shared} {d : Addr} {es : Array DictEntry} {ep : Nat} {Q : Value → Shared → Prop} (hd : (d == sysModules) = false) (hm : s.heap.DictRaw d es ep) (hfit : (es.size : Int) < 2 ^ 63)
    (h : Q (.int es.size (s.toks + 1)) { s with toks := s.toks + 1 + 1 }) : wpAny (model prog w) A (Builtin.«len» ⟨[.ref d], []⟩) (fun fin s' => ∃ r, fin = .done (.ret r) ∧ Q r s') E s := by
  unfold Builtin.«len»
  refine wpAny_bind (m := oneArg "len" _) (wpAny_pure ?_)
  refine wpAny_bind (m := callSpecial? (.ref d) (Str.ofString "__len__")) (wpAny_callSpecial?_slot (name := Str.ofString "__len__") hm.typeIs F.slot_dict_len
    (call_meetsIn F.slot_dict_len hm.typeIs F.entry_dict_len (F.args_dict_len_1 _) (meets_dict_len_raw d hd) ⟨es, ep, hm, ?_⟩))
  show wpAny _ _ _ _ _ { s with toks := s.toks + 1 }
  refine wpAny_bind (wpAny_holding (wpAny_pure ?_))
  refine wpAny_bind (wpAny_letGo ?_)
  show wpAny _ _ (if ((es.size : Nat) : Int) < 0 then _ else _) _ _ _
  rw [if_neg (by omega)]
  show wpAny _ _ (if ((es.size : Nat) : Int) ≥ 2 ^ 63 then _ else _) _ _ _
  rw [if_neg (by omega)]
  exact wpAny_bind (wpAny_mkInt (wpAny_pure ⟨_, rfl, h⟩))
theorem c_lenD : CallD X ra (.builtin "len") xLenD := by
  refine callD_of fun pins s σ B H xs z vs us Q I ru rx e q => ?_
  unfold xLenD at e
  split at e
  · rename_i k ks ws
    cases e
    obtain ⟨v, rfl, r⟩ := reps1 rx
    obtain ⟨u, rfl, r1⟩ := vals1' ru
    obtain ⟨a, es, ep, kvs, rfl, hr, hs, hz, hn, _⟩ := raw_at I r r1
    have hsz : sizeLine = 16777216 := sz_eq
    refine Calls.call_function_entry kind_len plain_len entry_len (args_len1 _) (len_body_raw hs hr (by omega) ⟨.int ((ks.length + 1 : Nat) : Int), H, I.tok _, ⟨_, by rw [hn]; rfl⟩, q _ rfl⟩)
  · cases e
end
end Ev

namespace Ev
open PySem PySem.Spec PyProof.Rows L2

/-! ### raise X() -/
abbrev bmVE : List Value := [.type "ValueError", .type "Exception", .type "BaseException", .type "object"]
structure ErrC (K : PySem.W.Frag) (mg : Str → Option Value) (x : Str) : Prop where
  ex : ∃ C, mg x = some (.ref C) ∧ PySem.W.excIn K C bmVE "ValueError.__new__" = true ∧ PySem.W.keepIn K (.ref C) = true ∧ PySem.W.subIn K (.ref C) (.type "BaseException") = some true ∧ PySem.W.typeIn K (.ref C) = some (.type "type") ∧ PySem.W.exmOne K (.ref C) (.ref C) = some true
section
variable {X : Cx} {Tb : Tbs} {ra : RA Tb} {E : XK}
theorem pmk_own0 {C : Addr} {bmB : List Value} {B newId initId : String} {x : Str} {p pos : Pos} (F : ExcBaseFacts B newId initId bmB) (q : PySem.W.excIn X.K C bmB newId = true) (gC : X.mg x = some (.ref C)) (kC : PySem.W.keepIn X.K (.ref C) = true) (r : Raises X (.ref C)) (hg : Gl X x)
    (hdb : (x == ("__debug__" : Str)) = false := by decide) : PMk X (.Call (.Name x p) [] [] pos) (fun _ H Q => Q (.ref C) none H) := by
  intro pins s σ H Q I h
  refine wpAny_Call_Name_kw (ld_glob I hg gC ?_ hdb)
  refine PySem.W.callWith_K0 I.kIn kC ?_
  show wpAny _ _ (call (.ref C) []) _ _ _
  obtain ⟨bm, N, nm, qn, bs, hdct, sn, sub, ab, col, dd, k0, k1, k2, k3, k5, mN, hC, hN, hni, T⟩ := exc_obj I.kIn q
  obtain ⟨hp1, g1, d1, tk1, os1⟩ := s
  refine wpAny_call_exc_subT F T hC hN hni (fun h' e hm => ?_) (Nat.zero_le _)
  exact mk_of I hm r h (I.hok.gone hm.new)
def sRaise (c : Str) : SM := fun _ st => .exc c [] st
theorem ds_raise0 {x : Str} {p pos pos' : Pos} (T : ErrC X.K X.mg x) (hc : X.calm = true) (tk : Takes X (fun cls d _ H => E cls d H)) (hg : Gl X x) (hdb : (x == ("__debug__" : Str)) = false := by decide) :
    DSt X ra E (.Raise (some (.Call (.Name x p) [] [] pos)) none pos') (sRaise x) := by
  obtain ⟨C, g, q, k, b, t, m⟩ := T.ex
  exact PS.imp (ps_raise hc tk (pmk_own0 PySem.F.excBase_ValueError q g k (raises_own b t) hg hdb)) fun N σ H ⟨H0, B, τ, ρ, st, gd, q⟩ => q C none H g gd.ext gd.row (.inl rfl)
/-! ### try: x = f(..) ; .. except X as e: .. -/
abbrev ES := L2.St → XK
def tDs (X : Cx) {Tb : Tbs} (ra : RA Tb) (E : ES) (m : EM) : TE := fun σ H Q => ∃ B ρ st, Pre (pr X ra) B σ ρ H st ∧ EPost (pr X ra) B H (E σ) Q (m ρ st)
def SPostH (P : Par) (H0 H : Hp) (B : Addr → Prop) (τ : List Tmp) (E : XK) (N : Ends) : SR → Prop
  | .exc c fs st' => XPost P B H E c fs st'
  | r => SPost P H0 B τ E N r
theorem SPostH.ofE {α β : Type} {P : Par} {H0 H : Hp} {B B' : Addr → Prop} {τ : List Tmp} {E : XK} {N : Ends} {r : Res α} {k : α → DS → SR} {R : Hp → α → β → Prop} {T : β → Hp → Prop} (hB : ∀ H fs dd, XRep P H B' fs dd → XRep P H B fs dd) (h : SPostH P H0 H B τ E N (r.bind k)) (hk : ∀ a st c fs st', k a st ≠ .exc c fs st')
    (g : ∀ a st1 v H1, r = .ok a st1 → Ext (isRa P) H H1 → Row P H1 st1 → R H1 a v → SPost P H0 B τ E N (k a st1) → T v H1) : Post P B' H E R T r := by
  cases r with
  | ok a st1 =>
    refine fun v H1 e1 w1 x => g a st1 v H1 rfl e1 w1 x ?_
    have h : SPostH P H0 H B τ E N (k a st1) := h
    cases hr : k a st1 with
    | exc c fs st' => exact absurd hr (hk a st1 c fs st')
    | ok q st2 => rw [hr] at h; exact h
    | stuck => rw [hr] at h; exact h
  | exc c fs st1 => exact fun C dd H' m e' w x => h C dd H' m e' w (hB _ _ _ x)
  | stuck => exact h
def tSs (X : Cx) {Tb : Tbs} (ra : RA Tb) (E : ES) (n : SM) : TS := fun N σ H => ∃ H0 B τ ρ st, Good (pr X ra) H0 B τ σ ρ H st ∧ SPostH (pr X ra) H0 H B τ (E σ) N (n ρ st)
theorem de_callS {E : ES} {x : Str} {n k : Nat} {F : FM} {e : Expr} {es : List Expr} {am : AM} {p pos : Pos} (G : FnD X.prog X.w X.K X.mg X.base Tb k x n F) (hr : Room k X.A) (hg : Gl X x) (hx : ∀ σ, PassesAt (L2.CX X.prog X.w) X σ (E σ)) (ha : ∀ E, DA X ra E (e :: es) am)
    (hdb : (x == ("__debug__" : Str)) = false := by decide) (he : starEach (e :: es) X.env = (false, eval e X.env) :: starEach es X.env := by rfl) (hpl : (backTo pos (starEach es X.env)).any (·.1) = false := by rfl) :
    PE X (.Call (.Name x p) (e :: es) [] pos) (tDs X ra E (cCallN n F am)) := by
  obtain ⟨f, fd, ps, F1, hm, hk, hb⟩ := G
  have hA : PA X (e :: es) (fun σ H Q => tA X ra (E σ) am σ H Q) := ⟨fun pos pins s σ H Q I h => (ha (E σ)).run pos pins s σ H Q I h⟩
  exact PE.imp (pe_callS F1 hr hg hm hk hb hx hA hdb he hpl) fun σ H Q ⟨B, ρ, st, p, q⟩ => ⟨B, ρ, st, p, Post.seq q fun ds st1 vs H1 _ e1 w1 r q1 => by
    by_cases hl : ds.length = n
    · rw [if_pos hl] at q1
      exact of_spF (p.ext e1 w1) r (by rw [r.length]; exact hl) q1
    · rw [if_neg hl] at q1
      exact q1.elim⟩
/-- x = f(..) that may raise, ahead in a try -/
theorem ds_setS1 {E : ES} {i : Nat} {x : Str} {e : Expr} {m : EM} {pos pos' : Pos} (hN : X.N.Nodup) (hi : X.N[i]? = some x) (hx : Loc X.env.scope x) (h : PE X e (tDs X ra E m)) (hs : swapsWith e (some (.Name x pos')) pos.line X.env = pure false := by rfl) (hf : X.fn x = true ∨ X.env.scope.names.lookup x = some .local := by first | exact .inl rfl | exact .inr rfl | assumption) : PS X (.Assign [.Name x pos'] e pos) (tSs X ra E (sSetS i m)) :=
  PS.imp (ps_set hN hi hx h hs hf) fun N σ H ⟨H0, B, τ, ρ, st, g, q⟩ => by
    refine ⟨_, erS ρ, st, g.preS, SPostH.ofE (fun _ _ _ x => xrep_less (fun a z => .inl z) x) q (fun a st c fs st' z => by split at z <;> cases z) fun d st1 v H1 _ e1 w1 r q1 => ?_⟩
    by_cases hc : notLent ρ i = true
    · rw [if_pos hc] at q1
      exact q1 _ H1 ((g.step e1 w1).setSh hc (r.less fun a z => z.elim id fun z => z.elim))
    · rw [if_neg hc] at q1
      exact q1.elim
/-- f(..) alone, ahead in a try -/
theorem ds_expr1 {E : ES} {e : Expr} {m : EM} {pos : Pos} (h : PE X e (tDs X ra E m)) (hs : swapsWith e none pos.line X.env = pure false := by rfl) : PS X (.Expr e pos) (tSs X ra E (sExpr m)) :=
  PS.imp (ps_expr h hs) fun N σ H ⟨H0, B, τ, ρ, st, g, q⟩ => ⟨B, er ρ, st, g.pre, SPostH.ofE (fun _ _ _ x => x) q (fun a st c fs st' z => by cases z) fun d st1 v H1 _ e1 w1 r q1 => q1 σ H1 (g.step e1 w1)⟩
def noX : SR → SR
  | .exc _ _ _ => .stuck
  | r => r
theorem GoodC.forget {P : Par} {H0 H : Hp} {B C : Addr → Prop} {τ : List Tmp} {σ : L2.St} {ρ : SE} {st : DS} (g : GoodC P H0 B C τ σ ρ H st) {i : Nat} (n : notLent ρ i = true) (u : Option V) : GoodC P H0 B C τ (σ.set i u) (ρ.set i none) H st := by
  have ne : ∀ {j : Nat} {o : Option (Kd × D)} {q : Kd × D}, (ρ.set i none)[j]? = some (some q) → i ≠ j ∧ ρ[j]? = some (some q) := fun {j o q} h => by
    rcases set_get h with ⟨_, e, _⟩ | ⟨a, b⟩
    · cases e
    · exact ⟨a, b⟩
  have sg : ∀ {j : Nat}, i ≠ j → (σ.set i u)[j]? = σ[j]? := fun h => List.getElem?_set_ne h
  have oA : ∀ a, OwnA (σ.set i u) (ρ.set i none) a → OwnA σ ρ a := fun a ⟨j, k, d, h1, h2, h3⟩ => by
    obtain ⟨a1, a2⟩ := ne (o := none) h1
    rw [sg a1] at h3
    exact ⟨j, k, d, a2, h2, h3⟩
  have oB : ∀ a ls, OwnB (σ.set i u) (ρ.set i none) ls a → OwnB σ ρ ls a := fun a ls ⟨j, k, d, h0, h1, h2, h3⟩ => by
    obtain ⟨a1, a2⟩ := ne (o := none) h1
    rw [sg a1] at h3
    exact ⟨j, k, d, h0, a2, h2, h3⟩
  have sub : ∀ a, ((B a ∨ OwnA (σ.set i u) (ρ.set i none) a) ∨ C a) → ((B a ∨ OwnA σ ρ a) ∨ C a) := fun a z => z.imp (fun z => z.imp id (oA a)) id
  refine ⟨g.bra, g.dom0, g.row, g.ext, g.new, fun j x h => ?_, fun j k x h hk => ?_, fun j l k k' x y a h1 h2 h3 h4 h5 h6 => ?_, fun t m => (g.tmp t m).less fun a z => z.imp (fun z => z.imp id (oB a _)) id, fun t m j hj => ?_, by simpa using g.len⟩
  · obtain ⟨a1, a2⟩ := ne (o := none) h
    obtain ⟨w, a, b⟩ := g.sh j x a2
    exact ⟨w, by rw [sg a1]; exact a, b.less sub⟩
  · obtain ⟨a1, a2⟩ := ne (o := none) h
    obtain ⟨a, q, q1, q2, q3⟩ := g.own j k x a2 hk
    exact ⟨a, by rw [sg a1]; exact q, q1, q2, q3.less sub⟩
  · obtain ⟨a1, a2⟩ := ne (o := none) h1
    obtain ⟨b1, b2⟩ := ne (o := none) h3
    rw [sg a1] at h5
    rw [sg b1] at h6
    exact g.dis j l k k' x y a a2 h2 b2 h4 h5 h6
  · obtain ⟨x, h⟩ := g.pin t m j hj
    have ne : i ≠ j := fun z => by subst z; exact notLent_of n h
    exact ⟨x, by rw [List.getElem?_set_ne ne]; exact h⟩
/-- what stands behind the except suite -/
def offN (i : Nat) : SR → SR
  | .ok (.nx, ρ) st => if notLent ρ i = true then .ok (.nx, ρ.set i none) st else .stuck
  | .ok (.rt d, ρ) st => .ok (.rt d, ρ) st
  | _ => .stuck
def sTryAs (c : Str) (i : Nat) (first rest suite : SM) : SM := fun ρ st => match first ρ st with
  | .ok (.nx, ρ') st1 => noX (rest ρ' st1)
  | .ok (.rt d, ρ') st1 => .ok (.rt d, ρ') st1
  | .exc c' _ st1 => if c' = c ∧ notLent ρ i = true then offN i (suite (ρ.set i none) st1) else .stuck
  | _ => .stuck
theorem noX_imp {P : Par} {H0 : Hp} {B : Addr → Prop} {τ : List Tmp} {E E' : XK} {N : Ends} {r : SR} (h : SPost P H0 B τ E N (noX r)) : SPost P H0 B τ E' N r := by
  cases r with
  | ok a st =>
    obtain ⟨f, ρ⟩ := a
    cases f <;> exact h
  | exc c fs st => exact h.elim
  | stuck => exact h
/-- what every state of the suite hands on -/
theorem off_ends {P : Par} {H0 : Hp} {B : Addr → Prop} {τ : List Tmp} {E E' : XK} {N : Ends} {i : Nat} {r : SR} (h : SPost P H0 B τ E N (offN i r)) :
    SPost P H0 B τ E' { nx := fun σ' H' => N.nx (σ'.set i none) H', rt := N.rt, bk := fun σ' H' => N.bk (σ'.set i none) H', ct := fun σ' H' => N.ct (σ'.set i none) H' } r := by
  cases r with
  | ok a st =>
    obtain ⟨f, ρ⟩ := a
    cases f with
    | nx =>
      intro σ' H' g
      unfold offN at h
      split at h
      · rename_i e
        cases e
        split at h
        · rename_i hn
          exact h _ H' (g.forget hn none)
        · exact h.elim
      · rename_i e; cases e
      · rename_i h1 h2; exact absurd rfl (h1 ρ st)
    | rt d => exact h
    | bk => exact h.elim
    | ct => exact h.elim
  | exc c fs st => exact h.elim
  | stuck => exact h.elim
theorem ds_tryAs {x n : Str} {i : Nat} {first : Stmt} {rest suite : List Stmt} {b₀ : Stmt} {np pos pos' : Pos} {n1 n2 n3 : SM} (hs : X.stack = X.env :: X.outer) (hf : X.env.frame = some X.env.locals) (hN : X.N.Nodup) (hi : X.N[i]? = some n) (hln : X.env.kindOf n = some .local) (T : ErrC X.K X.mg x) (hg : Gl X x) (hdb : (x == ("__debug__" : Str)) = false)
    (tk : Takes X (fun cls d _ H => E cls d H))
    (h1 : ∀ (Ee : ES) (pn : List (Addr × Obj)) (xe : Value → Shared → Prop), (∀ σ, PassesAt (L2.CX X.prog X.w) (X.tr pn xe) σ (Ee σ)) → PassesOwn (model X.prog X.w) X.A X.env xe → PS (X.tr pn xe) first (tSs (X.tr pn xe) ra Ee n1))
    (h2 : ∀ (pn : List (Addr × Obj)) (xe : Value → Shared → Prop), PassesOwn (model X.prog X.w) X.A X.env xe → DSs (X.tr pn xe) ra (fun _ _ _ => False) rest n2)
    (h3 : ∀ (a : Addr) (pn : List (Addr × Obj)), DSs (X.suite a pn) ra (fun _ _ _ => False) (b₀ :: suite) n3) :
    DSt X ra E (.Try (first :: rest) [.ExceptHandler (some (.Name x np)) (some n) (b₀ :: suite) pos'] [] [] pos) (sTryAs x i n1 n2 n3) := by
  obtain ⟨C, gC, q, k, b, t, mm⟩ := T.ex
  refine PS.imp (ps_try_as (c := .ref C) (i := i) (ts := fun _ _ _ => tS X ra (fun _ _ _ => False) n3) (tb := fun W N σ H => ∃ H0 B τ ρ st, Good (pr X ra) H0 B τ σ ρ H st ∧ SPostH (pr X ra) H0 H B τ (fun cls d H' => W cls d σ H') { N with nx := fun σ' H' => tS X ra (fun _ _ _ => False) n2 N σ' H' } (n1 ρ st)) hs hf hN hi hln ⟨hg, hdb, .inl gC⟩ tk (fun W pn xe tk' po => ?_) (fun a oe cls d pn _ _ => h3 a _)) fun N σ H ⟨H0, B, τ, ρ, st, g, q⟩ => ?_
  · have a1 := h1 (fun σ cls d H => W cls d σ H) pn xe (fun σ => passAt tk' σ) po
    have a2 := h2 pn xe po
    exact PSs.imp (pss_cons a1 a2) fun N σ H q => q
  · refine ⟨H0, B, τ, ρ, st, g, ?_⟩
    unfold sTryAs at q
    cases hr : n1 ρ st with
    | ok r st1 =>
      rw [hr] at q
      obtain ⟨fl, ρ'⟩ := r
      cases fl with
      | nx => exact fun σ' H' g' => ⟨H0, B, τ, ρ', st1, g', noX_imp q⟩
      | rt d => exact q
      | bk => exact q.elim
      | ct => exact q.elim
    | exc c fs st1 =>
      rw [hr] at q
      have q2 : SPost (pr X ra) H0 B τ E N (if c = x ∧ notLent ρ i = true then offN i (n3 (ρ.set i none) st1) else .stuck) := q
      by_cases hc : c = x ∧ notLent ρ i = true
      · rw [if_pos hc] at q2
        obtain ⟨rfl, hn⟩ := hc
        intro C' dd H' m e' w xr
        have m : X.mg c = some (.ref C') := m
        rw [gC] at m
        cases m
        refine ⟨true, mm, fun _ a ha => ?_, fun z => Bool.noConfusion z⟩
        exact ⟨H0, B, τ, ρ.set i none, st1, (g.step e' w).forget hn _, off_ends q2⟩
      · rw [if_neg hc] at q2
        exact q2.elim
    | stuck => rw [hr] at q; exact q.elim
end
end Ev

namespace Ev
open PySem PySem.Spec PyProof.Rows L2

/-! ### max(d.values()) -/
theorem max_raw {prog : Program} {w : World} {A : Around} {E : Value → Shared → Prop} {s : Shared} {r d : Addr} {es : Array DictEntry} {ep : Nat} {x : PyData} {xs : List PyData} {as : List Addr} {Q : Value → Shared → Prop} (hh : A.handled = none) (hv : s.heap.IsValuesView r d) (hm : s.heap.DictRaw d es ep)
    (hr : ReadsAll s.heap (es.toList.map (·.val)) (x :: xs) as) (ha : PySem.W.AlikeAll (x :: xs)) (hu : A.units + 1 + PyData.depthAll (x :: xs) < cLine)
    (h : ∀ (i : Nat) v h' tk bs, (es.toList.map (·.val))[i]? = some v → Reads h' v (PySem.W.maxD x xs) bs → (∀ b o, s.heap.get? b = some o → h'.get? b = some o) → Q v { s with heap := h', toks := tk }) :
    wpAny (model prog w) A (call (.builtin "max") [.ref r]) Q E s := by
  have hd : d < s.heap.objs.size := hm.lt_size
  have W := (Walks.rawValues (prog := prog) (w := w) (A := A.in1) hh s.heap.objs.size d (Nat.ne_of_lt hd) es ep).mono_item (P' := fun i v => (es.toList.map (·.val)).toArray[i]? = some v) fun i v _ ⟨hi, e⟩ => by simp [hi, e]
  have hr' : ReadsAll s.heap (es.toList.map (·.val)).toArray.toList (x :: xs) as := by simpa using hr
  have hn : es.size = xs.length + 1 := by
    have := PySem.W.readsAll_len hr'
    simpa using this
  refine call_max_walkH (wpAny_pyIter_values_raw hv hm ?_)
  refine ⟨_, _, _, _, _, _, _, s.heap, _, rfl, W.toS, ⟨⟨_, Heap.get?_push_size _ rfl, rfl, rfl⟩, hm.push _⟩, fun b hb => ?_, by omega, fun b o e hb => ?_, fun b o e => Heap.get?_push_of_some _ e, PySem.W.cmpIn_gt (A := A.in1) hr' ha (by show A.units + 1 + _ < _; exact hu), fun v s' hP m => ?_⟩
  · show b < (s.heap.push _).objs.size
    rw [Heap.size_push]
    rcases List.mem_cons.mp hb with rfl | hb
    · exact Nat.lt_succ_self _
    · rcases List.mem_cons.mp hb with rfl | hb
      · exact Nat.lt_succ_of_lt hd
      · cases hb
  · exact absurd (Heap.lt_size e) ((List.mem_singleton.mp hb) ▸ Nat.lt_irrefl _)
  · obtain ⟨h', tk, rfl, hk'⟩ := PySem.W.moved_old rfl rfl m
    obtain ⟨bs, r, _, _, _⟩ := PySem.W.readsAll_atA hr' _ v hP
    have e1 : es.size - 1 = xs.length := by omega
    have e2 := (PySem.W.argBest_fold (fun a b => PySem.W.dataLt b a) PyData.none x xs xs.length (Nat.le_refl _)).2
    rw [List.take_length] at e2
    rw [e1] at r hP
    exact h _ v h' tk bs (by simpa using hP) (PySem.W.reads_keeps hk' (by unfold PySem.W.maxD; rw [← e2]; exact r)) hk'
section
variable {X : Cx} {Tb : Tbs} {ra : RA Tb} {E : XK}
def maxOf : D → Option D
  | .dic (_ :: _) (x :: xs) => if sortable (x :: xs) = true then some (maxL x xs) else none
  | _ => none
def cMaxV (m : EM) : EM := fun ρ st => (m ρ st).bind fun d st1 => Res.of (maxOf d) st1
def tVals (te : TE) : TE := fun σ H Q => te σ H fun v H1 => ∃ a es ep, v = .ref a ∧ H1 a = some (.ext fun h => h.DictRaw a es ep) ∧ (a == sysModules) = false ∧ ∀ p, H1 p = none → Q (.ref p) (upd H1 p (.ext fun h => h.IsValuesView p a))
theorem pe_vals {o : Expr} {te : TE} {apos pos : Pos} (ho : PE X o te) (hbase : attributeBase o "values" X.env (eval o X.env) = eval o X.env := by rfl) (hline : (apos.endLine == pos.line) = true := by rfl) : PE X (.Call (.Attribute o "values" apos) [] [] pos) (tVals te) := by
  refine ⟨fun pins s σ H Q I h => ?_⟩
  refine wpAny_Call_method0_late hbase hline (thn (ho.run pins s σ H _ I h) fun v s1 ⟨x, H1, I1, r1, a, es, ep, ex, ha, hs, q1⟩ => ?_)
  subst ex
  cases r1
  have hr : s1.heap.DictRaw a es ep := (I1.hok a _ ha).1
  refine ⟨"dict", _, PySem.F.plainAttrs_dict, PySem.F.slot_dict_values, PySem.F.type_dict_values, hr.typeIs, fun b e => ?_, Calls.callWith_builtin rfl (PySem.evalArgs_none ?_)⟩
  · cases e
    obtain ⟨ob, h1, h2, _⟩ := hr
    exact ⟨ob, h1, h2.2.1⟩
  · refine call_meetsIn PySem.F.slot_dict_values hr.typeIs PySem.F.entry_dict_values (PySem.F.args_dict_values_1 _) (meets_dict_values_raw a hs) ⟨⟨es, ep, hr⟩, ?_⟩
    have hn := I1.hok.fresh (Nat.le_refl s1.heap.objs.size)
    have hv : (s1.heap.push { cls := .type "dict_values", data := .fields #[.ref a] }).IsValuesView s1.heap.objs.size a := ⟨_, Heap.get?_push_size _ rfl, rfl, rfl⟩
    exact ⟨.ref s1.heap.objs.size, _, I1.laid (t' := s1.toks) (o := .ext fun h => h.IsValuesView s1.heap.objs.size a) (fun b o e => Heap.get?_push_of_some _ e) (Nat.le_refl _) ⟨hv, ⟨_, Heap.get?_push_size _ rfl⟩, fun h1 h2 ⟨o, e, r⟩ k => ⟨o, k o e, r⟩⟩, rfl, q1 _ hn⟩
theorem de_maxV {o : Expr} {m : EM} {p apos pos pos' : Pos} (hu : X.A.units + 64 < cLine) (hcalm : X.calm = true) (hg : Gl X "max") (hm : X.mg "max" = none) (ho : DE X ra E o m)
    (hbase : attributeBase o "values" X.env (eval o X.env) = eval o X.env := by rfl) (hline : (apos.endLine == pos.line) = true := by rfl)
    (he : starEach [.Call (.Attribute o "values" apos) [] [] pos] X.env = (false, eval (.Call (.Attribute o "values" apos) [] [] pos) X.env) :: starEach [] X.env := by rfl) (hpl : (backTo pos' (starEach [] X.env)).any (·.1) = false := by rfl) :
    DE X ra E (.Call (.Name "max" p) [.Call (.Attribute o "values" apos) [] [] pos] [] pos') (cMaxV m) := by
  have hc : CallR X (.builtin "max") (fun vs H Q => ∃ p a es ep B x xs ws zv, vs = [.ref p] ∧ H p = some (.ext fun h => h.IsValuesView p a) ∧ H a = some (.ext fun h => h.DictRaw a es ep) ∧ sortable (x :: xs) = true ∧ Vals ws (es.toList.map (·.val)) ∧ Reps (pr X ra) H B (x :: xs) ws ∧ zv = maxL x xs ∧ ∀ v, Rep (pr X ra) H B zv v → Q v H) := by
    intro pins s σ H vs us Q I r q
    obtain ⟨p, a, es, ep, B, x, xs, ws, zv, rfl, h1, h2, hs, rv, rs, rfl, q⟩ := q
    obtain ⟨u, rfl, r1⟩ := vals1' r
    cases r1
    have hv : s.heap.IsValuesView p a := (I.hok p _ h1).1
    have hr : s.heap.DictRaw a es ep := (I.hok a _ h2).1
    obtain ⟨k1, k2, k3, k4, k5⟩ := sortable_of hs
    obtain ⟨a1, a2⟩ := alike_of hs
    obtain ⟨as, rr⟩ : ∃ as, ReadsAll s.heap (es.toList.map (·.val)) (D.pys (x :: xs)) as := by
      clear a1 a2 k5 k4 k3 k2 hs q
      generalize es.toList.map (·.val) = us at rv
      generalize x :: xs = ds at rs k1
      induction ds generalizing us ws with
      | nil =>
        cases (show ws = [] from rs)
        cases rv
        exact ⟨[], .nil⟩
      | cons d ds ih =>
        obtain ⟨v, w', rfl, g1, g2⟩ := rs
        cases rv with
        | cons b1 b2 =>
          have k1 : d.plain = true ∧ D.plains ds = true := by simpa [D.plains] using k1
          obtain ⟨as1, r1⟩ := Dp.reads I _ _ _ (Rep.dp d v k1.1 g1) b1
          obtain ⟨as2, r2⟩ := ih _ _ b2 g2 k1.2
          exact ⟨as1 ++ as2, .cons r1 r2⟩
    rw [D.pys] at rr a1 a2
    refine max_raw (I.ok.hd hcalm) hv hr rr a1 (by omega) fun i v h' tk bs hi hvv hk => ?_
    have I1 : Inv X pins σ H { s with heap := h', toks := tk } := I.kept hk
    rw [← maxL_py] at hvv
    obtain ⟨w, g1, g2⟩ := pick_rep k1 rs rv hi (maxL_mem xs x) hvv fun d w u m r t => Dp.reads I1 _ _ u (Rep.dp d w (plains_mem k1 m) r) t
    exact ⟨w, H, I1, g1, q w g2⟩
  refine PE.imp (pe_callB hc hg hm PyProof.Rows.boot_max (pa_cons (pe_vals ho hbase hline) pa_nil) (by decide) (by decide) he hpl) fun σ H Q ⟨B, ρ, st, p, q⟩ => ?_
  refine ⟨B, ρ, st, p, Post.seq q fun d st1 v H1 hq e1 w1 r q1 => ?_⟩
  clear hq
  cases hz : maxOf d with
  | none => rw [hz] at q1; exact q1.elim
  | some z =>
    rw [hz] at q1
    unfold maxOf at hz
    split at hz
    · rename_i k ks x xs
      split at hz
      · rename_i hs
        cases hz
        obtain ⟨a, ob, kvs, rfl, h1, dd, nb, r1, r2⟩ := r
        rcases dd with ⟨z, _⟩ | ⟨_, es, ep, rfl, hsm, he, _⟩
        · cases z
        · refine ⟨a, es, ep, rfl, h1, hsm, fun p' hp' => ?_⟩
          have ne : a ≠ p' := fun z => by rw [← z, h1] at hp'; cases hp'
          refine ⟨p', a, es, ep, B, x, xs, _, _, rfl, upd_same, by rw [upd_ne ne]; exact h1, hs, ents_vals he, r2.ext (Ext.new hp') (sub_ra p.bra), rfl, fun v rv => q1 v _ (Ext.new hp') (w1.new hp') rv⟩
      · cases hz
    · cases hz
end
end Ev

namespace Ev
open PySem PySem.Spec PyProof.Rows L2
section
variable {X : Cx} {Tb : Tbs} {ra : RA Tb} {E : XK} {e : Expr} {es ts : List Expr} {m : EM} {xm : XM} {pos : Pos}
/-! ### a, b = x, y of any names -/
theorem ds_parG {is : List Nat} {k k2 : Nat} {tp pt2 : Pos} (hc : X.calm = true) (h : NmsOk X ts is) (ha : DX X ra E es xm) (hn : (assignEach ts X.env).length = is.length := by rfl) (hst : (assignEach ts X.env).findIdx? (·.1) = none := by rfl)
    (hs : swapsWithSole [.Tuple ts k tp] (.Tuple es k2 pt2) pos.line X.env = pure false := by rfl) (hw : swappedStores [.Tuple ts k tp] (.Tuple es k2 pt2) X.env = pure none := by rfl)
    (h1 : (assignEach [.Tuple ts k tp] X.env).map (·.2) = [assign (.Tuple ts k tp) X.env] := by rfl) (hz : is.length ≤ 16 := by decide) : DSt X ra E (.Assign [.Tuple ts k tp] (.Tuple es k2 pt2) pos) (sPar is xm) := by
  refine PS.imp (ps_asg (pe_tup ha) (pg_tup (n := is.length) hc h.pgs hn hst) hs hw h1) fun N σ H ⟨H0, B, τ, ρ, st, g, q⟩ => ?_
  refine ⟨H0, B, τ, ρ, st, [], g.lessC (fun a z => absurd z (by simp)), (fun c h => absurd h (by simp)), List.nodup_nil, ?_⟩
  unfold sPar at q
  cases hr : xm ρ st with
  | ok l st2 =>
    rw [hr] at q
    intro us H' cs' g' e' hc' nd' fr x'
    have q : SPost (pr X ra) H0 B τ E N (if is.length = l.length ∧ okK l = true ∧ is.all (notLent ρ) = true then .ok (.nx, setAll ρ (is.zip l)) st2 else .stuck) := q
    split at q
    · rename_i hh
      refine ⟨by rw [x'.length, ← hh.1, sizeLine_eq]; omega, fun t ht => ?_⟩
      rw [List.append_nil] at g' nd' x'
      have g2 := g'.step (Ext.new (o := .tup us) ht) (g'.row.new ht)
      have x2 := x'.ext (H0 := fun _ => none) (H' := upd H' t (.tup us)) (Ext.new ht) (X := fun _ => False) (fun a z => z.elim) (fun p z => z.elim) (fun _ _ => rfl)
      have hl : us.length = is.length := by rw [x'.length]; exact hh.1.symm
      exact ⟨t, us, rfl, SqT.of upd_same, hl, gAll_of hl (q _ _ (GoodC.stores is l us cs' hh.1 hh.2.1 g2 nd' (fun a z => z) x2 hh.2.2))⟩
    · exact q.elim
  | exc c fs st2 => rw [hr] at q; exact q
  | stuck => rw [hr] at q; exact q
/-- a new dict, among several values -/
def isDic : D → Bool
  | .dic ks ws => D.pures ks && D.pures ws
  | _ => false
def xOd (f : EM) (r : XM) : XM := fun ρ st => (f (er ρ) st).bind fun d st1 => if isDic d = true then (r ρ st1).bind fun l st2 => .ok ((.own, d) :: l) st2 else .stuck
theorem dx_Od (h : DFd X ra E e m) (hr : DX X ra E es xm) (hs : starEach (e :: es) X.env = (false, eval e X.env) :: starEach es X.env := by rfl) : DX X ra E (e :: es) (xOd m xm) :=
  PA.imp (pa_cons h hr hs) fun σ H Q ⟨H0, B, τ, ρ, st, cs, g, hc, nd, q⟩ => ⟨B, er ρ, st, g.pre, XPo.ofE g.ext (fun _ _ _ x => x) q fun d st1 v H1 hq e1 w1 r q1 => by
    clear hq
    obtain ⟨p, rfl, hn, ht⟩ := r
    split at q1
    · rename_i hp
      have np : p ∉ cs := fun z => hc p z hn
      have g1 : GoodC (pr X ra) H0 B (fun a => a ∈ p :: cs) τ σ ρ H1 st1 := ((g.moreP hn).step e1 w1).lessC fun a z => List.mem_cons.mp z
      have hp1 : H1 p ≠ none := by obtain ⟨o, h1, _⟩ := ht.there; rw [h1]; exact fun z => nomatch z
      refine ⟨H0, B, τ, ρ, st1, p :: cs, g1, fun c h => ?_, List.nodup_cons.mpr ⟨np, nd⟩, ?_⟩
      · rcases List.mem_cons.mp h with h | h
        · rw [h]; exact hp1
        · exact e1.dom c (hc c h)
      · cases hr : xm ρ st1 with
        | ok l st2 =>
          rw [hr] at q1
          intro us H' cs' g' e' hc' nd' fr x'
          have mem : ∀ a, a ∈ (p :: cs') ++ cs ↔ a ∈ cs' ++ p :: cs := fun a => by
            simp only [List.mem_append, List.mem_cons]
            constructor
            · rintro ((z | z) | z)
              · exact .inr (.inl z)
              · exact .inl z
              · exact .inr (.inr z)
            · rintro (z | z | z)
              · exact .inl (.inr z)
              · exact .inl (.inl z)
              · exact .inr z
          refine q1 (.ref p :: us) H' (p :: cs') (g'.lessC fun a z => (mem a).mp z) (e1.trans e') (fun c h => hc' c ((mem c).mp h)) ((List.perm_middle (a := p) (l₁ := cs') (l₂ := cs)).nodup_iff.mp nd') (fun c h => ?_) ⟨p, us, cs', rfl, rfl, ?_, x'.less fun a z => z.imp id (mem a).mp⟩
          · rcases List.mem_cons.mp h with h | h
            · rw [h]; exact hn
            · exact e1.fresh (fr c h)
          · have np' : ¬ (isRa (pr X ra)) p := fun z => g.notB (g.ext.fresh hn) (by rw [show p = ra.a from z]; exact g.bra)
            have t : Top (pr X ra) H1 (fun a => (B a ∨ OwnA σ ρ a) ∨ a ∈ (p :: cs') ++ cs) d p := by
              cases d with
              | dic ks ws =>
                have hp : D.pures ks = true ∧ D.pures ws = true := by simpa [isDic] using hp
                obtain ⟨o, kvs, h1, h2, h3, h4⟩ := ht
                exact ⟨o, kvs, h1, h2, Reps.any _ _ hp.1 h3, Reps.any _ _ hp.2 h4⟩
              | _ => cases hp
            exact t.ext e' (fun a z => by rw [z]; exact .inl (.inl g.bra)) np'
        | exc c fs st2 => rw [hr] at q1; exact q1
        | stuck => rw [hr] at q1; exact q1
    · exact q1.elim⟩
/-! ### where nothing is raised -/
theorem passF {X : Cx} (po : PassesOwn (model X.prog X.w) X.A X.env X.xe) : Passes (L2.CX X.prog X.w) X (fun _ _ _ => False) := by
  intro pins σ H s e s' I c
  obtain ⟨_, _, _, _, _, _, _, _, _, _, _, _, _, z⟩ := c
  try exact z.elim
theorem tkF {X : Cx} : Takes X (fun _ _ _ _ => False) := by
  intro u s' x
  obtain ⟨_, _, _, _, _, _, _, _, _, _, _, _, _, _, _, _, z⟩ := x
  try exact z.elim
end
end Ev
namespace Ev
open PySem PySem.Spec PyProof.Rows L2
theorem exm_own {K : PySem.W.Frag} {C : Addr} (b : PySem.W.subIn K (.ref C) (.type "BaseException") = some true) (t : PySem.W.typeIn K (.ref C) = some (.type "type")) (i : PySem.W.isClsIn K C = true) (s : PySem.W.subIn K (.ref C) (.ref C) = some true) : PySem.W.exmOne K (.ref C) (.ref C) = some true := by
  have e1 : (PySem.W.subIn K (.ref C) (.type "BaseException") == some true) = true := by rw [b] <;> rfl
  have e2 : ((PySem.W.clsIn K C).isSome && PySem.W.typeIn K (.ref C) == some (.type "type")) = true := by
    have i' : (PySem.W.clsIn K C).isSome = true := i
    rw [i', t] <;> rfl
  show (if (PySem.W.subIn K (.ref C) (.type "BaseException") == some true) = true then (if ((PySem.W.clsIn K C).isSome && PySem.W.typeIn K (.ref C) == some (.type "type")) = true then PySem.W.subIn K (.ref C) (.ref C) else none) else none) = some true
  rw [if_pos e1, if_pos e2]
  exact s
end Ev

namespace Ev
open PySem PySem.Spec PyProof.Rows L2

/-! ### a list is not the empty one, whatever it holds -/
def xNeNil : D → D → Option D
  | .lst xs, .lst [] => some (.bl (!xs.isEmpty))
  | _, _ => none
section
variable {X : Cx} {Tb : Tbs} {ra : RA Tb} {E : XK}
theorem o_neNil (hu : X.A.units + 64 < cLine) : OpD X ra (compareOp .NotEq) xNeNil := by
  refine opD_of fun pins s σ B H x y z vx vy u w Q I ru rw' rx ry e q => ?_
  unfold xNeNil at e
  split at e
  · rename_i xs
    cases e
    obtain ⟨a, vs, rfl, h1, _, r1⟩ := rx
    obtain ⟨b, ws, rfl, h2, _, r2⟩ := ry
    cases ru
    cases rw'
    obtain ⟨its, rv, pl, _⟩ := I.list (SqL.of (K := X.K) h1)
    obtain ⟨its2, rv2, pl2, _⟩ := I.list (SqL.of (K := X.K) h2)
    have hl : its.length = xs.length := by rw [← rv.length, r1.length]
    have hl2 : its2.length = 0 := by rw [← rv2.length, r2.length]; rfl
    have fin : ∀ b : Bool, b = (!xs.isEmpty) → EP X pins σ Q (.bool b) s := fun b e => ⟨.bl b, H, I, rfl, by rw [e]; exact q _ rfl⟩
    cases xs with
    | nil =>
      have hs : its.toArray.size = its2.toArray.size := by rw [List.size_toArray, List.size_toArray, hl, hl2]; rfl
      refine SeqAt.RcNeAt.lists (e := fun _ => true) pl.isList pl2.isList hs (by show X.A.units < cLine; omega) (fun j h1 => absurd h1 (by rw [List.size_toArray, hl]; exact Nat.not_lt_zero _)) _ _ _ _ (fin _ ?_)
      rw [List.size_toArray, hl]
      rfl
    | cons x xs =>
      refine SeqAt.RcNeAt.lists_lengths pl.isList pl2.isList ?_ (by show X.A.units < cLine; omega) _ _ _ _ (fin _ rfl)
      rw [List.size_toArray, List.size_toArray, hl, hl2]
      rfl
  · cases e
end
/-! ### objects whose class does nothing but keep what it is handed -/
def zipF : List Str → List V → List (Str × V)
  | f :: fs, v :: vs => (f, v) :: zipF fs vs
  | _, _ => []
theorem zipF_fst : ∀ {ns : List Str} {vs : List V}, vs.length = ns.length → (zipF ns vs).map (fun q => q.1) = ns
  | [], [], _ => rfl
  | [], _ :: _, h => by simp at h
  | _ :: _, [], h => by simp at h
  | f :: fs, v :: vs, h => by unfold zipF; rw [List.map_cons, zipF_fst (by simpa using h)]
theorem zipF_snd : ∀ {ns : List Str} {vs : List V}, vs.length = ns.length → (zipF ns vs).map (fun q => q.2) = vs
  | [], [], _ => rfl
  | [], _ :: _, h => by simp at h
  | _ :: _, [], h => by simp at h
  | f :: fs, v :: vs, h => by unfold zipF; rw [List.map_cons, zipF_snd (by simpa using h)]
def spRec (C : Addr) (ns : List Str) : Sp := fun vs H Q _ => ∃ (p dx : Addr) (us : List V), vs = .ref p :: us ∧ us.length = ns.length ∧ H p = some (.ins C dx []) ∧ ∀ H', H' p = some (.ins C dx (zipF ns us)) → (∀ b, b ≠ p → H' b = H b) → Q .non H'
structure RecC (P : Program) (w : World) (K : PySem.W.Frag) (mg : Str → Option Value) (base : Heap) (c : Str) (ns : List Str) : Prop where
  ex : ∃ (C fI : Addr) (fdI : FuncData), mg c = some (.ref C) ∧ Cls K C ∧ (∀ f ∈ ns, NoAttr K C f) ∧ Mk K C fI ∧ FnOk P w K mg base (L2.CX P w) 1 fI fdI ("self" :: ns) (spRec C ns) ∧ Binds K fdI ("self" :: ns) []
def cMake (c : Str) (ns : List Str) (m : AM) : EM := fun ρ st => (m ρ st).bind fun ds st1 => if ds.length = ns.length then .ok (.obj c ns ds) st1 else .stuck
def fldOf (f : Str) : List Str → List D → Option D
  | g :: ns, d :: ds => if g = f then some d else fldOf f ns ds
  | _, _ => none
def cFld (f : Str) (m : EM) : EM := fun ρ st => (m ρ st).bind fun d st1 => match d with
  | .obj _ ns fs => Res.of (fldOf f ns fs) st1
  | _ => .stuck
section
variable {X : Cx} {Tb : Tbs} {ra : RA Tb} {E : XK} {e : Expr} {es : List Expr} {m : EM} {am : AM} {pos p apos : Pos}
theorem de_make {c : Str} {ns : List Str} (R : RecC X.prog X.w X.K X.mg X.base c ns) (hr : Room 2 X.A) (hg : Gl X c) (hx : Passes (L2.CX X.prog X.w) X E) (ha : DA X ra E (e :: es) am)
    (hdb : (c == ("__debug__" : Str)) = false := by decide) (he : starEach (e :: es) X.env = (false, eval e X.env) :: starEach es X.env := by rfl) (hpl : (backTo pos (starEach es X.env)).any (·.1) = false := by rfl) :
    DE X ra E (.Call (.Name c p) (e :: es) [] pos) (cMake c ns am) := by
  obtain ⟨C, fI, fdI, gC, cl, na, M, F, hb⟩ := R.ex
  refine PE.imp (pe_make M F hr hg gC hb .nil hx ha hdb he hpl) fun σ H Q ⟨B, ρ, st, pre, q⟩ => ⟨B, ρ, st, pre, Post.seq q fun ds st1 vs H1 hq e1 w1 rs q1 => ?_⟩
  clear hq
  split at q1
  · rename_i hl
    intro x dx hx hdx ne
    rw [List.append_nil]
    have nra : ∀ a, H1 a = none → ¬ isRa (pr X ra) a := fun a ha z => by obtain ⟨sa, h1, _⟩ := w1; rw [show a = (pr X ra).ra from z] at ha; rw [ha] at h1; cases h1
    refine ⟨x, dx, vs, rfl, by rw [rs.length]; exact hl, upd_same, fun H' h1 h2 => ⟨rfl, ?_⟩⟩
    have hother : ∀ b, H1 b ≠ none → H' b = H1 b := fun b hb => by
      have n1 : b ≠ x := fun z => hb (by rw [z]; exact hx)
      have n2 : b ≠ dx := fun z => hb (by rw [z]; exact hdx)
      rw [h2 b n1, upd_ne n1, upd_ne n2]
    have x1 : Ext (isRa (pr X ra)) H1 H' := ⟨fun a o ha _ _ => by rw [hother a (by rw [ha]; exact fun z => nomatch z)]; exact ha, fun a ha => by rw [hother a ha]; exact ha⟩
    have w2 : Row (pr X ra) H' st1 := by
      obtain ⟨sa, g1, g2, g3⟩ := w1
      refine ⟨sa, by rw [hother _ (by rw [g1]; exact fun z => nomatch z)]; exact g1, ?_, g3.ext fun b o e => by rw [hother b (by rw [e]; exact fun z => nomatch z)]; exact e⟩
      rcases g2 with ⟨ob, g2⟩ | g2
      · exact .inl ⟨ob, by rw [hother _ (by rw [g2]; exact fun z => nomatch z)]; exact g2⟩
      · exact .inr g2
    have hlv : vs.length = ns.length := by rw [rs.length]; exact hl
    exact q1 (.ref x) H' x1 w2 ⟨x, C, dx, zipF ns vs, rfl, gC, h1, zipF_fst hlv, by rw [zipF_snd hlv]; exact rs.ext x1 (sub_ra pre.bra)⟩
  · exact q1.elim
theorem fld_get {P : Par} {H : Hp} {B : Addr → Prop} {f : Str} {z : D} : ∀ {ns : List Str} {ds : List D} {fl : List (Str × V)}, fl.map (fun q => q.1) = ns → Reps P H B ds (fl.map fun q => q.2) → fldOf f ns ds = some z → f ∈ ns ∧ ∃ v, fl.lookup f = some v ∧ Rep P H B z v
  | [], _, _, _, _, h => by cases h
  | g :: ns, [], _, _, _, h => by cases h
  | g :: ns, d :: ds, [], e, _, _ => by cases e
  | g :: ns, d :: ds, q :: fl, e, r, h => by
    rw [List.map_cons, List.cons.injEq] at e
    obtain ⟨rfl, e2⟩ := e
    obtain ⟨v, r', e', g1, g2⟩ := r
    rw [List.map_cons, List.cons.injEq] at e'
    obtain ⟨rfl, rfl⟩ := e'
    unfold fldOf at h
    by_cases hq : q.1 = f
    · rw [if_pos hq] at h
      cases h
      refine ⟨by rw [hq]; exact List.mem_cons_self, q.2, ?_, g1⟩
      obtain ⟨q1, q2⟩ := q
      have hq : q1 = f := hq
      subst hq
      simp [List.lookup]
    · rw [if_neg hq] at h
      obtain ⟨h1, v, h2, h3⟩ := fld_get e2 g2 h
      refine ⟨List.mem_cons_of_mem _ h1, v, ?_, h3⟩
      obtain ⟨q1, q2⟩ := q
      have hq : ¬ q1 = f := hq
      have hb : (f == q1) = false := beq_eq_false_iff_ne.mpr (Ne.symm hq)
      simp only [List.lookup, hb]
      exact h2
theorem de_fld {c f : Str} {ns : List Str} (R : RecC X.prog X.w X.K X.mg X.base c ns) (he : DE X ra E e m) (hb : attributeBase e f X.env (eval e X.env) = eval e X.env := by rfl) :
    DE X ra E (.Attribute e f pos) (fun ρ st => (m ρ st).bind fun d st1 => match d with
      | .obj c' ns' fs => if c' = c ∧ ns' = ns then Res.of (fldOf f ns' fs) st1 else .stuck
      | _ => .stuck) := by
  obtain ⟨C, fI, fdI, gC, cl, na, M, F, hbb⟩ := R.ex
  refine PE.imp (pe_fld he hb) fun σ H Q ⟨B, ρ, st, pre, q⟩ => ⟨B, ρ, st, pre, Post.seq q fun d st1 v H1 hq e1 w1 r q1 => ?_⟩
  clear hq
  split at q1
  · rename_i c' ns' fs
    split at q1
    · rename_i hc
      obtain ⟨rfl, rfl⟩ := hc
      cases hz : fldOf f ns' fs with
      | none => rw [hz] at q1; exact q1.elim
      | some z =>
        rw [hz] at q1
        obtain ⟨a, C', dx, fl, rfl, g1, g2, g3, g4⟩ := r
        have g1 : X.mg c' = some (.ref C') := g1
        rw [gC] at g1
        cases g1
        obtain ⟨h1, u, h2, h3⟩ := fld_get g3 g4 hz
        exact ⟨a, C, dx, fl, u, rfl, g2, cl, na f h1, h2, q1 u H1 Ext.refl w1 h3⟩
    · exact q1.elim
  · exact q1.elim
end
def cFldC (c : Str) (ns : List Str) (f : Str) (m : EM) : EM := fun ρ st => (m ρ st).bind fun d st1 => match d with
      | .obj c' ns' fs => if c' = c ∧ ns' = ns then Res.of (fldOf f ns' fs) st1 else .stuck
      | _ => .stuck
/-! ### methods -/
structure MethD (P : Program) (w : World) (K : PySem.W.Frag) (mg : Str → Option Value) (base : Heap) (Tb : Tbs) (k : Nat) (c m : Str) (n : Nat) (F : FM) : Prop where
  ex : ∃ (C f : Addr) (fd : FuncData) (ps : List Str), mg c = some (.ref C) ∧ Cls K C ∧ Meth K C m f ∧ FnOk P w K mg base (L2.CX P w) k f fd ps (spF K mg w Tb n F) ∧ Binds K fd ps []
def cMethN (c m : Str) (ns : List Str) (n : Nat) (F : FM) (a : EM) (am : AM) : EM := fun ρ st => (a ρ st).bind fun d st1 => match d with
  | .obj c' ns' fs => if c' = c ∧ ns' = ns then (am ρ st1).bind fun ds st2 => if ds.length + 1 = n then F (.obj c' ns' fs :: ds) st2 else .stuck else .stuck
  | _ => .stuck
theorem lookup_none {fl : List (Str × V)} {m : Str} : m ∉ fl.map (fun q => q.1) → fl.lookup m = none := by
  induction fl with
  | nil => intro _; rfl
  | cons q fl ih =>
    intro h
    rw [List.map_cons, List.mem_cons, not_or] at h
    obtain ⟨q1, q2⟩ := q
    have hb : (m == q1) = false := beq_eq_false_iff_ne.mpr h.1
    simp only [List.lookup, hb]
    exact ih h.2
section
variable {X : Cx} {Tb : Tbs} {ra : RA Tb} {E : XK} {o e : Expr} {es : List Expr} {a : EM} {am : AM} {pos apos : Pos}
theorem de_meth {c m : Str} {ns : List Str} {n k : Nat} {F : FM} {pl : Sem Bool} (G : MethD X.prog X.w X.K X.mg X.base Tb k c m n F) (hm : m ∉ ns) (hr : Room k X.A) (hx : Passes (L2.CX X.prog X.w) X E) (ho : DE X ra E o a) (ha : DA X ra E (e :: es) am)
    (hst : starEach (e :: es) X.env = (false, eval e X.env) :: starEach es X.env := by rfl) (hpl : (backTo pos (starEach es X.env)).any (·.1) = false := by rfl)
    (ht : eval (.Call (.Attribute o m apos) (e :: es) [] pos) X.env = (do
      let ov ← eval o X.env
      standAt apos.atName
      let (f, first) ← holding [ov] (getMethod ov m pl)
      callWith pos f first (backTo pos (starEach (e :: es) X.env)) (backToKw pos (keywordEach [] X.env))) := by rfl) :
    DE X ra E (.Call (.Attribute o m apos) (e :: es) [] pos) (cMethN c m ns n F a am) := by
  obtain ⟨C, f, fd, ps, gC, cl, M, F1, hb⟩ := G.ex
  refine PE.imp (pe_meth ho cl M F1 hr hb .nil hx ha hst hpl ht) fun σ H Q ⟨B, ρ, st, pre, q⟩ => ⟨B, ρ, st, pre, Post.seq q fun d st1 v H1 hq e1 w1 r q1 => ?_⟩
  clear hq
  split at q1
  · rename_i c' ns' fs
    split at q1
    · rename_i hc
      obtain ⟨rfl, rfl⟩ := hc
      obtain ⟨p, C', dx, fl, rfl, g1, g2, g3, g4⟩ := id r
      have g1 : X.mg c' = some (.ref C') := g1
      rw [gC] at g1
      cases g1
      refine ⟨p, dx, fl, rfl, g2, lookup_none (by rw [g3]; exact hm), B, ρ, st1, pre.ext e1 w1, Post.seq q1 fun ds st2 vs H2 hq2 e2 w2 rs q2 => ?_⟩
      clear hq2
      split at q2
      · rename_i hl
        rw [List.append_nil]
        exact of_spF (((pre.ext e1 w1).ext e2 w2)) (Reps.cons (r.ext e2 (sub_ra pre.bra)) rs) (by rw [List.length_cons, rs.length]; exact hl) q2
      · exact q2.elim
    · exact q1.elim
  · exact q1.elim
end
section
variable {P : Program} {w : World} {K : PySem.W.Frag} {mg : Str → Option Value} {base : Heap}
/-- a def, whatever it hangs on -/
theorem fnok_of {x q : Str} {st : Stmt} {f : Addr} {fd : FuncData} {N ps : List Str} {k : Nat} {nb : SM} (F : Fun K x q st f fd) (S : FnScope N ps (defScope st)) (hN : ps.length ≤ N.length)
    (hbody : ∀ (f : Addr) (cdv : Value) (A : Around) (outer : List Env) (s : Shared) (H : Hp) (E : XK) (ra : RA Tb), Room k (A.deeper (envOfC q (defScope st) s.heap.objs.size f cdv)) →
      DSs (cxOf (L2.CX P w) P w K mg base N q (defScope st) f cdv A outer s H E) ra E (defBody st) nb) : FnOk P w K mg base (L2.CX P w) (k + 1) f fd ps (spF K mg w Tb ps.length (runB N.length nb)) := by
  refine F.okX S (fun vs H Q E h => h.1) (fun cdv A outer s H vs Q E hr h => ?_)
  obtain ⟨hl, ra, B, st0, ds, b1, b2, b3, b4, q⟩ := h
  refine ⟨_, hbody f cdv A outer s H E ra hr, H, B, [], startE N.length ds, st0, ?_, ?_⟩
  · refine ⟨b1, b2, b3, Ext.refl, fun c z => z.elim, fun i d h => ?_, fun i k d h hk => absurd (start_get h).1 hk, fun i j k k' d d' a h hk => absurd (start_get h).1 hk, fun t m => absurd m (by simp), fun t m => absurd m (by simp), ?_⟩
    · obtain ⟨_, h⟩ := start_get h
      obtain ⟨v, hv, r⟩ := b4.get h
      refine ⟨v, ?_, r.less fun a z => ?_⟩
      · have hi : i < vs.length := (List.getElem?_eq_some_iff.mp hv).1
        unfold L2.start
        rw [List.getElem?_append_left (by simpa using hi), List.getElem?_map, hv]
        rfl
      · rcases z with (z | ⟨j, k, d', z1, z2, z3⟩) | z
        · exact z
        · exact absurd (start_get z1).1 z2
        · exact z.elim
    · unfold startE L2.start
      rw [List.length_append, List.length_append, List.length_map, List.length_map, List.length_replicate, List.length_replicate, b4.length]
      exact Nat.le_refl _
  · unfold runB at q
    cases hr : nb (startE N.length ds) st0 with
    | ok r st1 =>
      rw [hr] at q
      obtain ⟨fl, ρ⟩ := r
      cases fl with
      | nx => exact fun σ' H' g => q .non H' g.ext g.row rfl
      | rt d => exact fun v H' e r1 r2 => q v H' e r1 r2
      | bk => exact q.elim
      | ct => exact q.elim
    | exc c fs st1 =>
      rw [hr] at q
      exact q
    | stuck =>
      rw [hr] at q
      exact q.elim
/-- the __init__ that keeps three things -/
theorem init3 {q a b c : Str} {st : Stmt} {f C : Addr} {fd : FuncData} (F : Fun K "__init__" q st f fd) (S : FnScope ["self", a, b, c] ["self", a, b, c] (defScope st)) (cl : Cls K C) (na : NoAttr K C a) (nb : NoAttr K C b) (nc : NoAttr K C c) (hab : a ≠ b) (hac : a ≠ c) (hbc : b ≠ c)
    (hbody : ∀ (cdv : Value) (A : Around) (outer : List Env) (s : Shared) (H : Hp) (E : XK), PSs (cxOf (L2.CX P w) P w K mg base ["self", a, b, c] q (defScope st) f cdv A outer s H E) (defBody st) (fun D σ H => sFld K (tVar 0) (tVar 1) a { D with nx := fun σ H => sFld K (tVar 0) (tVar 2) b { D with nx := fun σ H => sFld K (tVar 0) (tVar 3) c D σ H } σ H } σ H)) :
    FnOk P w K mg base (L2.CX P w) 1 f fd ["self", a, b, c] (spRec C [a, b, c]) := by
  refine F.okX S (fun vs H Q E h => ?_) (fun cdv A outer s H vs Q E hr h => ?_)
  · obtain ⟨p, dx, us, rfl, hl, _⟩ := h
    simp [hl]
  · obtain ⟨p, dx, us, rfl, hl, hp, q⟩ := h
    match us, hl with
    | [u, v, x], _ =>
      refine ⟨_, hbody cdv A outer s H E, ?_⟩
      refine ⟨u, rfl, .ref p, rfl, p, C, dx, [], rfl, hp, cl, na, by show 0 < 1000; decide, ?_⟩
      refine ⟨v, rfl, .ref p, rfl, p, C, dx, _, rfl, upd_same, cl, nb, by show 1 < 1000; decide, ?_⟩
      have e2 : putF b v (putF a u []) = [(a, u), (b, v)] := by
        show (if a = b then _ else (a, u) :: putF b v []) = _
        rw [if_neg hab]
        rfl
      have e3 : putF c x [(a, u), (b, v)] = zipF [a, b, c] [u, v, x] := by
        show (if a = c then _ else (a, u) :: (if b = c then _ else (b, v) :: putF c x [])) = _
        rw [if_neg hac, if_neg hbc]
        rfl
      refine ⟨x, rfl, .ref p, rfl, p, C, dx, _, rfl, upd_same, cl, nc, by rw [e2]; show 2 < 1000; decide, ?_⟩
      rw [e2, e3]
      exact q _ upd_same fun y hy => by rw [upd_ne hy, upd_ne hy, upd_ne hy]
end
end Ev

namespace Ev
open PySem PySem.Spec PyProof.Rows L2

/-! ### a cut of a tuple or a text -/
def orS (f g : D → Option Int → Option Int → Option D) : D → Option Int → Option Int → Option D := fun x l u => match f x l u with
  | some z => some z
  | none => g x l u
/-! ### a number within a range -/
def xInR (neg : Bool) : D → D → Option D
  | .int i, .int j => some (.bl (neg ^^ decide (0 ≤ i ∧ i < j)))
  | _, _ => none
section
variable {X : Cx} {Tb : Tbs} {ra : RA Tb} {E : XK} {a b : Expr} {ma mb : EM} {p p2 pos : Pos}
theorem cr_range1 : CallR X (.type "range") (fun vs H Q => ∃ j, vs = [V.int j] ∧ ∀ p, H p = none → Q (.ref p) (upd H p (.rng 0 j))) := by
  intro pins s σ H vs us Q I r h
  obtain ⟨j, rfl, q⟩ := h
  cases r with
  | cons r rr =>
    cases rr
    obtain ⟨t, rfl⟩ := r
    refine call_range_1 ⟨.ref s.heap.objs.size, upd H s.heap.objs.size (.rng 0 j), I.laid (t' := s.toks + 1 + 1) (fun b o e => Heap.get?_push_of_some _ e) (Nat.le_refl _) ?_, rfl, q _ (I.hok.fresh (Nat.le_refl _))⟩
    exact ⟨_, _, _, Heap.get?_push_size _ rfl⟩
theorem op_notin_rng : OpR X (compareOp .NotIn) (fun x y H Q => ∃ i a lo hi, x = V.int i ∧ y = V.ref a ∧ H a = some (.rng lo hi) ∧ Q (.bl (!decide (lo ≤ i ∧ i < hi))) H) := by
  intro pins s σ H x y v u Q I rx ry h
  obtain ⟨i, a, lo, hi, rfl, rfl, ha, q⟩ := h
  obtain ⟨k, rfl⟩ := rx
  obtain rfl : u = Value.ref a := ry
  obtain ⟨t1, t2, t3, ho⟩ := I.hok a _ ha
  show wpAny _ _ (do return Value.bool (!(← contains (Value.ref a) (Value.int i k)))) _ _ s
  refine wpAny_bind (wpAny_contains_slot (T := "range") ⟨_, ho, rfl⟩ F.slot_range_contains (call_meets F.slot_range_contains ⟨_, ho, rfl⟩ F.entry_range_contains (F.args_range_contains_2 _ _) (q_contains a lo hi i t1 t2 t3 k)
    ⟨ho, wpAny_truthy_bool (wpAny_pure ⟨.bl _, H, I, rfl, ?_⟩)⟩))
  rw [place1]
  exact q
theorem in_of {r : R2} {neg : Bool} {σ : L2.St} {H : Hp} {Q : VK} (hr : ∀ (i j : Int) (a : Addr) (H : Hp) (Q : VK), H a = some (.rng 0 j) → Q (.bl (neg ^^ decide (0 ≤ i ∧ i < j))) H → r (.int i) (.ref a) H Q)
    (h : tD X ra E (cOp (xInR neg) ma mb) σ H Q) : tOp r (tD X ra E ma) (tCB (fun vs H Q => ∃ j, vs = [V.int j] ∧ ∀ p, H p = none → Q (.ref p) (upd H p (.rng 0 j))) (tA X ra E (aCons mb aNil))) σ H Q := by
  obtain ⟨B, ρ, st, p, q⟩ := h
  refine ⟨B, ρ, st, p, Post.seq q fun x st1 vx H1 hq e1 w1 rx q1 => ?_⟩
  clear hq
  have p1 := p.ext e1 w1
  refine ⟨B, ρ, st1, p1, ?_⟩
  have e : ((mb ρ st1).bind fun y st2 => Res.of (xInR neg x y) st2) = (aCons mb aNil ρ st1).bind fun ds st2 => match ds with
      | [y] => Res.of (xInR neg x y) st2
      | _ => .stuck := by
    unfold aCons
    cases mb ρ st1 <;> rfl
  rw [e] at q1
  refine Post.seq q1 fun ds st2 vs H2 hq2 e2 w2 rs q2 => ?_
  clear hq2
  split at q2
  · rename_i y
    cases hz : xInR neg x y with
    | none => rw [hz] at q2; exact q2.elim
    | some z =>
      rw [hz] at q2
      unfold xInR at hz
      split at hz
      · rename_i i j
        cases hz
        obtain rfl : vx = .int i := rx
        obtain ⟨v, ws, rfl, r1, r2⟩ := rs
        obtain rfl : v = .int j := r1
        obtain rfl : ws = [] := r2
        refine ⟨j, rfl, fun t ht => hr i j t _ _ upd_same ?_⟩
        exact q2 _ _ (Ext.new ht) (w2.new ht) rfl
      · cases hz
  · exact q2.elim
theorem de_inR (hg : Gl X "range") (hm : X.mg "range" = none) (ha : DE X ra E a ma) (hb : DE X ra E b mb) (hk : behindInMarks .In (.Call (.Name "range" p2) [b] [] p) = false := by first | exact nomark _ | rfl)
    (hs : starEach [b] X.env = (false, eval b X.env) :: starEach [] X.env := by rfl) (hpl : (backTo p (starEach [] X.env)).any (·.1) = false := by rfl) : DE X ra E (.Compare a [.In] [.Call (.Name "range" p2) [b] [] p] pos) (cOp (xInR false) ma mb) :=
  PE.imp (pe_cmpR op_in_rng ha (pe_callTy cr_range1 hg hm boot_range (da_cons hb da_nil hs) (by decide) (by decide) hs hpl) hk) fun σ H Q h =>
    in_of (fun i j a H Q h q => ⟨i, a, 0, j, rfl, rfl, h, by rw [Bool.false_xor] at q; exact q⟩) h
theorem de_notinR (hg : Gl X "range") (hm : X.mg "range" = none) (ha : DE X ra E a ma) (hb : DE X ra E b mb) (hk : behindInMarks .NotIn (.Call (.Name "range" p2) [b] [] p) = false := by first | exact nomark _ | rfl)
    (hs : starEach [b] X.env = (false, eval b X.env) :: starEach [] X.env := by rfl) (hpl : (backTo p (starEach [] X.env)).any (·.1) = false := by rfl) : DE X ra E (.Compare a [.NotIn] [.Call (.Name "range" p2) [b] [] p] pos) (cOp (xInR true) ma mb) :=
  PE.imp (pe_cmpR op_notin_rng ha (pe_callTy cr_range1 hg hm boot_range (da_cons hb da_nil hs) (by decide) (by decide) hs hpl) hk) fun σ H Q h =>
    in_of (fun i j a H Q h q => ⟨i, a, 0, j, rfl, rfl, h, by rw [Bool.true_xor] at q; exact q⟩) h
theorem dt_inR (hg : Gl X "range") (hm : X.mg "range" = none) (ha : DE X ra E a ma) (hb : DE X ra E b mb) (hk : behindInMarks .In (.Call (.Name "range" p2) [b] [] p) = false := by first | exact nomark _ | rfl)
    (hs : starEach [b] X.env = (false, eval b X.env) :: starEach [] X.env := by rfl) (hpl : (backTo p (starEach [] X.env)).any (·.1) = false := by rfl) : DT X ra E (.Compare a [.In] [.Call (.Name "range" p2) [b] [] p] pos) (cTest (cOp (xInR false) ma mb)) :=
  PT.imp (pt_cmpR op_in_rng ha (pe_callTy cr_range1 hg hm boot_range (da_cons hb da_nil hs) (by decide) (by decide) hs hpl) hk) fun σ H Q h =>
    in_of (fun i j a H Q h q => ⟨i, a, 0, j, rfl, rfl, h, by rw [Bool.false_xor] at q; exact q⟩) (tTest_of h)
theorem dt_notinR (hg : Gl X "range") (hm : X.mg "range" = none) (ha : DE X ra E a ma) (hb : DE X ra E b mb) (hk : behindInMarks .NotIn (.Call (.Name "range" p2) [b] [] p) = false := by first | exact nomark _ | rfl)
    (hs : starEach [b] X.env = (false, eval b X.env) :: starEach [] X.env := by rfl) (hpl : (backTo p (starEach [] X.env)).any (·.1) = false := by rfl) : DT X ra E (.Compare a [.NotIn] [.Call (.Name "range" p2) [b] [] p] pos) (cTest (cOp (xInR true) ma mb)) :=
  PT.imp (pt_cmpR op_notin_rng ha (pe_callTy cr_range1 hg hm boot_range (da_cons hb da_nil hs) (by decide) (by decide) hs hpl) hk) fun σ H Q h =>
    in_of (fun i j a H Q h q => ⟨i, a, 0, j, rfl, rfl, h, by rw [Bool.true_xor] at q; exact q⟩) (tTest_of h)
end
end Ev

namespace Ev
open PySem PySem.Spec PyProof.Rows L2

/-! ### sorted(text) -/
section
open PySem.W PySem.Calls PyProof.V
theorem collect_text {prog : Program} {w : World} {A : Around} {E : Value → Shared → Prop} {s : Shared} {R : List Value → Shared → Prop} (hh : A.handled = none) (x : Str) (t : Tok) (hn : x.cps.size ≤ sizeLine)
    (h : ∀ (h' : Heap) (tk : Nat) (acc : Array Value), (∀ b o, s.heap.get? b = some o → h'.get? b = some o) → ItemsOf (SignAt x) acc x.cps.size → R acc.toList { s with heap := h', toks := tk }) :
    wpAny (model prog w) A (collect (.str x t)) R E s := by
  unfold collect
  refine wpAny_bind (wpAny_runValue (codeAny_builtin entry_proto_collect' ?_))
  rw [Around.under_plainId PySem.F.plain_proto_collect _]
  show wpAny _ A.in1 (newList [] >>= fun l => again (.builtin "list.__iadd__" ⟨[l, .str x t], []⟩)) _ _ s
  refine wpAny_bind (wpAny_newObj_type ?_)
  refine wpAny_pure ⟨plainId_quiet PySem.F.plain_list_iadd _, codeAny_builtin entry_list_iadd' ?_⟩
  rw [Around.under_plainId PySem.F.plain_list_iadd _]
  have hS₁ : (s.heap.push { cls := .type "list", data := .seq ([] : List Value).toArray }).get? s.heap.objs.size = some { cls := .type "list", data := .seq #[] } := Heap.get?_push_size _ rfl
  show wpAny _ A.in1 (Builtin.List.listExtendWith (.ref s.heap.objs.size) (.str x t) (.ref s.heap.objs.size)) _ _ _
  have key := wpAny_extend_str (prog := prog) (w := w) (A := A) (s := { s with heap := s.heap.push { cls := .type "list", data := .seq ([] : List Value).toArray } })
    (R := fun (q : Result) (s' : Shared) => ∃ (h' : Heap) (tk : Nat) (acc' : Array Value) (c' : Nat), q = .ok (.ret (.ref s.heap.objs.size)) ∧ s' = { s with heap := h', toks := tk } ∧
      (∀ b o, s.heap.get? b = some o → h'.get? b = some o) ∧ h'.get? s.heap.objs.size = some { cls := .type "list", dict := none, data := .seq acc' c', slots := #[] } ∧ ItemsOf (SignAt x) acc' x.cps.size)
    hh x t s.heap.objs.size (.ref s.heap.objs.size) 0 hS₁
    (fun h' tk acc' c' hk hS' hacc => ⟨h', tk, acc', c', rfl, rfl, fun b o e => hk b o (Nat.ne_of_lt (Heap.lt_size e)) (Heap.get?_push_of_some _ e), hS', hacc⟩) hn
  refine wpAny_mono key (fun fin s' x => ?_) fun e s' x => ?_
  · cases fin with
    | done f =>
      obtain ⟨h', tk, acc', c', e, rfl, hk, hS', hacc⟩ := x
      cases e
      show wpAny _ A (load s.heap.objs.size >>= _) _ _ _
      refine wpAny_bind (wpAny_load hS' ?_)
      exact wpAny_pure (h h' tk acc' hk hacc)
    | again c₁ =>
      refine ⟨x.1, codeAny_mono x.2 fun q s₂ y => ?_⟩
      obtain ⟨h', tk, acc', c', rfl, rfl, hk, hS', hacc⟩ := y
      show wpAny _ A (load s.heap.objs.size >>= _) _ _ _
      refine wpAny_bind (wpAny_load hS' ?_)
      exact wpAny_pure (h h' tk acc' hk hacc)
  · obtain ⟨_, _, _, _, e', _⟩ := x
    cases e'
end
def xSortedS : List D → Option (List D)
  | [.str z] => if z.cps.size ≤ SZ ∧ sortable (signD z) = true then some (sortD (signD z)) else none
  | _ => none
section
variable {X : Cx} {Tb : Tbs} {ra : RA Tb}
theorem c_sortedS (hu : X.A.units + 64 < cLine) (hcalm : X.calm = true) : CallF X ra (.builtin "sorted") xSortedS := by
  refine callF_of fun pins s σ B H xs zs vs us Q hb I ru rx e q => ?_
  unfold xSortedS at e
  split at e
  · rename_i z
    split at e
    · rename_i hzs
      obtain ⟨hz, hso⟩ := hzs
      cases e
      obtain ⟨v, rfl, rv⟩ := reps1 rx
      obtain ⟨u, rfl, r1⟩ := vals1' ru
      cases (show v = V.str z from rv)
      obtain ⟨t, rfl⟩ := r1
      refine Calls.call_function_entry PyProof.Rows.kind_sorted PyProof.Rows.plain_sorted PyProof.Rows.entry_sorted (PyProof.Rows.args_sorted1 _) ?_
      unfold Builtin.«sorted»
      refine wpAny_bind (m := checkCount "sorted" 1 1 _) (wpAny_pure ?_)
      refine wpAny_bind (collect_text (A := X.A.in1) (I.ok.hd hcalm) z t (by rw [sz_eq]; exact hz) fun h' tk acc hk hacc => ?_)
      have I1 : Inv X pins σ H { s with heap := h', toks := tk } := I.kept hk
      have hsz : acc.size = z.cps.size := hacc.1
      have hm : Vals (signV z) acc.toList := by
        refine vals_of_at (by unfold signV; rw [List.length_map, Array.length_toList, Array.length_toList, hsz]) fun j x u hx hu => ?_
        unfold signV at hx
        rw [List.getElem?_map, Array.getElem?_toList] at hx
        cases hc : z.cps[j]? with
        | none => rw [hc] at hx; cases hx
        | some c =>
          rw [hc] at hx
          cases hx
          obtain ⟨c', w, hc', rfl⟩ := hacc.2 j u (by simpa using hu)
          rw [hc] at hc'
          cases hc'
          exact ⟨w, rfl⟩
      have hal : acc.toList.length = z.cps.size := by rw [Array.length_toList]; exact hacc.1
      refine wpAny_bind (wpAny_newList ?_ (by rw [hal, sz_eq]; exact hz))
      have hoL : (h'.push (seqObj "list" acc.toList.toArray 0)).get? h'.objs.size = some (seqObj "list" acc.toList.toArray 0) := Heap.get?_push_size _ rfl
      show wpAny _ _ _ _ _ { s with heap := h'.push (seqObj "list" acc.toList.toArray 0), toks := tk }
      obtain ⟨h1, h2, h3, h4, h5⟩ := sortable_of hso
      have I2 : Inv X pins σ H { s with heap := h'.push (seqObj "list" acc.toList.toArray 0), toks := tk } := I1.kept (t' := tk) fun b o e => Heap.get?_push_of_some _ e
      refine wpAny_bind (wpAny_holding (PySem.W.list_sort_data (s := { s with heap := h'.push (seqObj "list" acc.toList.toArray 0), toks := tk }) (R := fun u d => ∃ v, RelV v u ∧ Rep (pr X ra) H B d v) (bs := signD z) (enc := D.py) hoL (each_of (reps_sign z) hm fun d v u _ r t => ⟨v, t, r⟩) (each_of (reps_sign (P := pr X ra) (H := H) (B := B) z) hm fun d v u m r t => ?_) h2 h3 (by rw [sz_eq]; exact h5) (fun d hd => ?_) fun out ho eo => ?_))
      · obtain ⟨as, r0⟩ := Dp.reads I1 _ _ u (Rep.dp d v (plains_mem h1 m) r) t
        exact ⟨as, PyProof.Rows.Reads.keeps (fun b o e => Heap.get?_push_of_some _ e) r0, fun z => absurd (reads_lt r0 _ z) (Nat.lt_irrefl _)⟩
      · have := h4 d hd
        rw [Around.in1_units]
        omega
      · obtain ⟨wo, r1, r2⟩ := of_each eo
        obtain ⟨c, hc⟩ := PyProof.Rows.sortedHeap_at (vs := acc.toList) (out := out.toArray) hoL
        have hb : ∀ b o, h'.get? b = some o → (PyProof.Rows.sortedHeap (h'.push (seqObj "list" acc.toList.toArray 0)) h'.objs.size acc.toList out.toArray).get? b = some o := fun b u e => by
          have hb : b < h'.objs.size := Heap.lt_size e
          rw [PyProof.Rows.sortedHeap_old (Nat.ne_of_lt hb) (by rw [size_push']; exact Nat.lt_succ_of_lt hb)]
          exact Heap.get?_push_of_some _ e
        refine wpAny_pure ⟨_, rfl, .ref h'.objs.size, upd H h'.objs.size (.lst wo), I1.laid (t' := tk) hb (Nat.le_refl _)
          (show ObjOk X.prog X.w _ _ _ (.lst wo) from ⟨by rw [r1.length, List.length_mergeSort, sz_eq]; exact h5, out, c, r2, hc⟩), rfl, q _ wo (I1.hok.fresh (Nat.le_refl _)) r1⟩
    · cases e
  · cases e
end
end Ev

namespace Ev
open PySem PySem.Spec PyProof.Rows L2

/-! ### x[i] op= e -/
def rGetN : V → V → Hp → VK → Prop := fun o i H Q => ∃ (p : Addr) (xs : List V) (k : Nat) (v : V), o = .ref p ∧ i = .int (k : Int) ∧ H p = some (.lst xs) ∧ k < 1000000 ∧ xs[k]? = some v ∧ Q v H
section
variable {X : Cx} {Tb : Tbs} {ra : RA Tb} {E : XK} {e : Expr} {pos : Pos}
theorem get_list : PGet X rGetN := by
  intro pins s σ H o i ov iv Q I ro ri h
  obtain ⟨p, xs, k, v, rfl, rfl, hp, hk, hv, q⟩ := h
  cases ro
  obtain ⟨t, rfl⟩ := ri
  obtain ⟨its, n, r, ho, hz⟩ := I.lst hp
  obtain ⟨w, ew, rw'⟩ := r.get hv
  have hl : s.heap.IsList p its.toArray := ⟨_, ho, rfl, n, rfl⟩
  exact wpAny_getItem_list hl (by omega) (by omega) (by rw [Int.toNat_natCast]; simpa using ew) ⟨v, H, I, rw', q⟩
def sAug (f : Int → Int → Int) (i : Nat) (mi me : EM) : SM := fun ρ st => match ρ[i]? with
  | some (some (.own, .lst xs)) => (mi (er ρ) st).bind fun j st1 => match j with
    | .int z => match ixN xs.length z with
      | some k => if z = (k : Int) ∧ k < 1000000 then match xs[k]? with
        | some (.int u) => (me (er ρ) st1).bind fun y st2 => match y with
          | .int w => .ok (.nx, ρ.set i (some (.own, .lst (xs.set k (.int (f u w)))))) st2
          | _ => .stuck
        | _ => .stuck
        else .stuck
      | none => .stuck
    | _ => .stuck
  | _ => .stuck
theorem ds_aug {op : Operator} {f : Int → Int → Int} (hop : PIp X op (ipI f)) {o j : Expr} {i : Nat} {mi me : EM} {p2 : Pos} (ho : PE X o (tVar i)) (hj : DE X ra E j mi) (he : DE X ra E e me)
    (ha : ∀ ov iv new, augStore j ov iv new = (do holding [new, ov, iv] (setItem ov iv new); release [new, ov, iv] []; pure .next) := by intros; rfl) : DSt X ra E (.AugAssign (.Subscript o j p2) op e pos) (sAug f i mi me) := by
  refine PS.imp (ps_augS ho hj get_list he hop set_list ha) fun N σ H ⟨H0, B, τ, ρ, st, g, q⟩ => ?_
  have q : SPost (pr X ra) H0 B τ E N (match ρ[i]? with
  | some (some (.own, .lst xs)) => (mi (er ρ) st).bind fun j st1 => match j with
    | .int z => match ixN xs.length z with
      | some k => if z = (k : Int) ∧ k < 1000000 then match xs[k]? with
        | some (.int u) => (me (er ρ) st1).bind fun y st2 => match y with
          | .int w => .ok (.nx, ρ.set i (some (.own, .lst (xs.set k (.int (f u w)))))) st2
          | _ => .stuck
        | _ => .stuck
        else .stuck
      | none => .stuck
    | _ => .stuck
  | _ => .stuck) := q
  split at q
  · rename_i xs hx
    obtain ⟨a, hs, z1, z2, z3⟩ := g.own i .own _ hx (by decide)
    refine ⟨.ref a, hs, B, er ρ, st, g.pre, SPost.ofE g.ext (fun _ _ _ x => x) q fun jd st1 jv H1 hq e1 w1 rj q1 => ?_⟩
    clear hq
    split at q1
    · rename_i z
      split at q1
      · rename_i k hk
        split at q1
        · rename_i hzk
          obtain ⟨rfl, hk6⟩ := hzk
          split at q1
          · rename_i u hu
            have g1 := g.step e1 w1
            obtain ⟨a', hs', z1', z2', z3'⟩ := g1.own i .own _ hx (by decide)
            rw [hs] at hs'
            cases hs'
            obtain ⟨vs, f1, f2⟩ := top_lst z3'
            obtain ⟨uv, eu, ru⟩ := f2.get hu
            refine ⟨a, vs, k, uv, rfl, rep_int rj, f1, hk6, eu, B, er ρ, st1, g1.pre, SPost.ofE g1.ext (fun _ _ _ x => x) q1 fun yd st2 yv H2 hq e2 w2 ry q2 => ?_⟩
            clear hq
            split at q2
            · rename_i w
              have g2 := g1.step e2 w2
              obtain ⟨a', hs', z1', z2', z3'⟩ := g2.own i .own _ hx (by decide)
              rw [hs] at hs'
              cases hs'
              obtain ⟨vs2, f1', f2'⟩ := top_lst z3'
              refine ⟨u, w, rep_int ru, rep_int ry, a, vs2, (k : Int), k, rfl, rep_int rj, f1', by rw [f2'.length]; exact hk, ?_⟩
              refine q2 σ _ (g2.mutL hx hs (f2'.set k ?_))
              exact rfl
            · exact q2.elim
          · exact q1.elim
        · exact q1.elim
      · exact q1.elim
    · exact q1.elim
  · exact q.elim
end
end Ev

namespace Ev
open PySem PySem.Spec PyProof.Rows L2

/-! ### s.count(t) -/
def xCountS : D → D → Option D
  | .str z, .str y => some (.int (Txt.count z y))
  | _, _ => none
section
variable {X : Cx} {Tb : Tbs} {ra : RA Tb} {E : XK} {o e : Expr} {ma mb : EM} {apos pos : Pos}
theorem de_countS (ho : DE X ra E o ma) (he : DE X ra E e mb) (hbase : attributeBase o "count" X.env (eval o X.env) = eval o X.env := by rfl)
    (hfew : ((backTo pos (starEach [e] X.env)).all (fun x => !x.1) && (backToKw pos (keywordEach [] X.env)).all (fun x => x.1.isSome) && decide ([e].length + ([] : List Keyword).length + (if ([] : List Keyword).isEmpty then 0 else 1) < 30)) = true := by rfl)
    (hline : (apos.endLine == pos.line) = true := by rfl) (hs : starEach [e] X.env = (false, eval e X.env) :: starEach [] X.env := by rfl) (hplain : (backTo pos (starEach [] X.env)).any (·.1) = false := by rfl) :
    DE X ra E (.Call (.Attribute o "count" apos) [e] [] pos) (cMeth isStr xCountS ma mb) :=
  PE.imp (pe_bm PySem.F.plainAttrs_str PySem.F.slot_str_count PySem.F.type_str_count mt_count ho (pa_cons he pa_nil hs) hbase hfew hline hs hplain) fun σ H Q ⟨B, ρ, st, p, q⟩ => ⟨B, ρ, st, p, Post.seq q fun x st1 vx H1 _ e1 w1 rx q1 => by
    have p1 := p.ext e1 w1
    cases x with
    | str z =>
      have q1 : EPost (pr X ra) B H1 E Q ((mb ρ st1).bind fun y st2 => Res.of (xCountS (.str z) y) st2) := q1
      cases (show vx = V.str z from rx)
      refine ⟨rfl, B, ρ, st1, p1, Post.seq q1 fun y st2 vy H2 _ e2 w2 ry q2 => ?_⟩
      cases y with
      | str y =>
        cases (show vy = V.str y from ry)
        exact ⟨z, y, rfl, rfl, q2 _ H2 Ext.refl w2 rfl⟩
      | _ => exact q2.elim
    | _ => exact q1.elim⟩
end
/-! ### l.count(t), a list of texts -/
def strsD : List D → Option (List Str)
  | [] => some []
  | .str z :: r => (strsD r).map (z :: ·)
  | _ :: _ => none
def xCountL : D → D → Option D
  | .lst xs, .str y => (strsD xs).map fun zs => .int (zs.count y : Nat)
  | _, _ => none
def isLst : D → Bool
  | .lst _ => true
  | _ => false
theorem strsD_reps {P : Par} {H : Hp} {B : Addr → Prop} : ∀ {xs : List D} {zs : List Str} {vs : List V}, strsD xs = some zs → Reps P H B xs vs → vs = zs.map V.str
  | [], zs, vs, h, r => by
    cases h
    have r : vs = [] := r
    rw [r]
    rfl
  | .str z :: xs, zs, vs, h, r => by
    have h' : (strsD xs).map (z :: ·) = some zs := h
    cases e : strsD xs with
    | none => rw [e] at h'; cases h'
    | some ys =>
      rw [e] at h'
      cases h'
      obtain ⟨v, r', rfl, r1, r2⟩ := Reps.uncons r
      cases (show v = V.str z from r1)
      rw [strsD_reps e r2]
      rfl
def rCntS (K : PySem.W.Frag) : V → List V → Hp → VK → Prop := fun x xs H Q => ∃ (p : Addr) (ns : List Str) (k : Str), x = .ref p ∧ xs = [.str k] ∧ SqL K H p (ns.map V.str) ∧ Q (.int (ns.count k : Nat)) H
theorem strs_of_vals : ∀ {ns : List Str} {us : List Value}, Vals (ns.map V.str) us → StrsAre us ns := by
  intro ns us h
  exact h.strs
theorem count_strs (k : Str) : ∀ {vs : List Value} {ys : List Str}, StrsAre vs ys → vs.countP (isStrOf k) = ys.count k := by
  intro vs ys h
  induction h with
  | nil => rfl
  | cons n u h ih =>
    rw [List.countP_cons, List.count_cons, ih]
    rfl
theorem mt_lcountS {X : Cx} : MtR X "list.count" (rCntS X.K) := by
  intro pins s σ H x xs v us Q I rx rxs h
  obtain ⟨p, ns, k, rfl, rfl, hs, q⟩ := h
  cases rx
  obtain ⟨u, rfl, ru⟩ := rxs.one
  obtain ⟨t, rfl⟩ := ru
  obtain ⟨its, rv, ⟨⟨cls, dd, data, sl⟩, n, ho, hc, hdn, hd⟩, hlen⟩ := I.list hs
  simp only at hc hd
  subst hc hd
  have hi := strs_of_vals rv
  refine call_meets PySem.F.slot_list_count ⟨_, ho, rfl⟩ PySem.F.entry_list_count (PySem.F.args_list_count_2 _ _)
    (SeqAt.list_countAt p its.toArray n dd sl (.str k t) (isStrOf k)) ⟨ho, fun y hy => (eq_isStrOf k t hi y (by simpa using hy)).at _ _, ?_⟩
  have ec : its.toArray.toList.countP (isStrOf k) = ns.count k := count_strs k hi
  refine ⟨.int (ns.count k : Nat), H, I.tok _, ⟨s.toks, ?_⟩, q⟩
  show Value.int ((its.toArray.toList.countP (isStrOf k) : Nat) : Int) s.toks = Value.int ((ns.count k : Nat) : Int) s.toks
  rw [ec]
/-! ### str(i) -/
def xStrI : List D → Option D
  | [.int i] => if i.natAbs.log2 < 1920 then some (.str (toString i)) else none
  | _ => none
section
variable {X : Cx} {Tb : Tbs} {ra : RA Tb} {E : XK} {o e : Expr} {ma mb : EM} {apos pos : Pos}
theorem c_str : CallD X ra (.type "str") xStrI := by
  refine ⟨_, call_str_int, fun B H st xs z vs Q b d w rs e q => ?_⟩
  unfold xStrI at e
  split at e
  · rename_i i
    split at e
    · rename_i hl
      cases e
      obtain ⟨v, rfl, h1⟩ := reps1 rs
      cases (show v = V.int i from h1)
      exact ⟨i, rfl, hl, q _ H Ext.refl w rfl⟩
    · cases e
  · cases e
theorem de_countL (ho : DE X ra E o ma) (he : DE X ra E e mb) (hbase : attributeBase o "count" X.env (eval o X.env) = eval o X.env := by rfl)
    (hfew : ((backTo pos (starEach [e] X.env)).all (fun x => !x.1) && (backToKw pos (keywordEach [] X.env)).all (fun x => x.1.isSome) && decide ([e].length + ([] : List Keyword).length + (if ([] : List Keyword).isEmpty then 0 else 1) < 30)) = true := by rfl)
    (hline : (apos.endLine == pos.line) = true := by rfl) (hs : starEach [e] X.env = (false, eval e X.env) :: starEach [] X.env := by rfl) (hplain : (backTo pos (starEach [] X.env)).any (·.1) = false := by rfl) :
    DE X ra E (.Call (.Attribute o "count" apos) [e] [] pos) (cMeth isLst xCountL ma mb) :=
  PE.imp (pe_bm PySem.F.plainAttrs_list PySem.F.slot_list_count PySem.F.type_list_count mt_lcountS ho (pa_cons he pa_nil hs) hbase hfew hline hs hplain) fun σ H Q ⟨B, ρ, st, p, q⟩ => ⟨B, ρ, st, p, Post.seq q fun x st1 vx H1 _ e1 w1 rx q1 => by
    have p1 := p.ext e1 w1
    cases x with
    | lst xs =>
      have q1 : EPost (pr X ra) B H1 E Q ((mb ρ st1).bind fun y st2 => Res.of (xCountL (.lst xs) y) st2) := q1
      have rx0 := rx
      obtain ⟨l, vs, rfl, hl, hb, rs⟩ := rx
      refine ⟨.inl ⟨rfl, vs, SqL.of hl⟩, B, ρ, st1, p1, Post.seq q1 fun y st2 vy H2 _ e2 w2 ry q2 => ?_⟩
      cases y with
      | str y =>
        cases (show vy = V.str y from ry)
        have q2 : EPost (pr X ra) B H2 E Q (Res.of ((strsD xs).map fun zs => D.int (zs.count y : Nat)) st2) := q2
        cases hz : strsD xs with
        | none => rw [hz] at q2; exact q2.elim
        | some zs =>
          rw [hz] at q2
          obtain ⟨l', vs', el, hl', hb', rs'⟩ := rx0.ext e2 (sub_ra p1.bra)
          cases el
          have ev := strsD_reps hz rs'
          subst ev
          exact ⟨l, zs, y, rfl, rfl, SqL.of hl', q2 _ H2 Ext.refl w2 rfl⟩
      | _ => exact q2.elim
    | _ => exact q1.elim⟩
end
end Ev

namespace Ev
open PySem PySem.Spec PyProof.Rows L2

/-! ### for x in a fresh list, all else free to change -/
section
variable {X : Cx} {Tb : Tbs} {ra : RA Tb} {E : XK} {tg iter : Expr} {ss : List Stmt} {am : AM} {t : Tg} {nb : SM} {pos : Pos}
theorem top_some {P : Par} {H : Hp} {B : Addr → Prop} {d : D} {a : Addr} (h : Top P H B d a) : H a ≠ none := by
  cases d with
  | lst xs => obtain ⟨vs, h1, h2⟩ := h; rw [h1]; exact fun z => nomatch z
  | dic ks ws =>
    obtain ⟨o, vs, h1, h2⟩ := h
    rw [h1]
    exact fun z => nomatch z
  | _ => exact absurd h id
theorem ds_forF (hp : PassesOwn (model X.prog X.w) X.A X.env X.xe) (hcm : X.calm = true) (hi : DF X ra E iter am) (ht : TgS X ra tg t) (hb : DSs X ra E ss nb) (hs : ∀ x, foldedSetIterable iter X.env x = pure x := by intro _; rfl) : DSt X ra E (.For tg iter ss [] pos) (sFor0 am t nb) := by
  obtain ⟨g0, hg, hk⟩ := ht
  refine PS.imp (ps_for hp hcm (pi_list hi) hg hb hs) fun N σ H ⟨H0, B, τ, ρ, st, g, q⟩ => ⟨B, er ρ, st, g.pre, SPost.ofE g.ext (fun _ _ _ x => x) q fun ds st1 v H1 _ e1 w1 ⟨a, vs, ev, hn, ha, rs⟩ q1 => ?_⟩
  by_cases hc : D.pures ds = true
  · rw [if_pos hc, ← forL_fin (t := t) (nb := nb) (r := forL t nb ds ρ st1)] at q1
    have g1 := g.step e1 w1
    have nb' : ¬ (B a ∨ OwnB σ ρ (lents ρ) a) := fun z => by
      rcases z with z | ⟨i, k, d, _, h1, h2, h3⟩
      · exact g.pre.dom a z hn
      · obtain ⟨a', h4, _, _, h5⟩ := g.own i k d h1 h2
        rw [h3] at h4
        cases h4
        exact top_some h5 hn
    have tr : TRep (pr X ra) H1 (fun b => B b ∨ OwnB σ ρ (lents ρ) b) [(D.lst ds, V.ref a)] := fun t m => by
      rw [List.mem_singleton.mp m]
      exact ⟨a, vs, rfl, ha, nb', Reps.any _ _ hc rs⟩
    exact ⟨a, ev, ⟨vs, SqL.of ha⟩, for_core (ls := lents ρ) (nw := []) (τ := τ) (walks_lst rfl) hb hk (.inl hc) (fun _ _ _ h => nomatch h) (g1.push tr) q1⟩
  · rw [if_neg hc] at q1
    exact q1.elim
end
end Ev

namespace Ev
open PySem PySem.Spec PyProof.Rows L2
/-! ### len(set(l)), a list of unlike texts -/
section
variable {prog : Program} {w : World} {A : Around} {R : Result → Shared → Prop} {I : Addr} {fp wr : List Addr} {G : Array GenState → Array GenState → Prop} {n : Nat} {P : Nat → Value → Prop} {St : Nat → Shared → Prop}
theorem loopTx (W : WalksS prog w A.in1 I fp wr G n P St) (S : Addr) (hSf : S ∉ fp) (xs : List Str) (hsz : xs.length = n) (nd : xs.Nodup) (hn1 : n + 1 < scanBound)
    (hval : ∀ i v, P i v → ∃ t, v = .str (xs.getD i Str.empty) t) :
    ∀ (k i : Nat) (s : Shared), n - i = k → i ≤ n → St i s →
      s.heap.SetOf (PySem.strKind prog w) S (fun k' => (xs.take i).any (· == k')) i →
      (∀ s', Moved (S :: wr) G s s' → s'.heap.SetOf (PySem.strKind prog w) S (fun k' => (xs.take n).any (· == k')) n → R (.ok (.ret .none)) s') →
      codeAny (model prog w) A (.builtin "set.update.loop" ⟨[.ref S, .ref I], []⟩) R s := by
  have hSw : S ∉ wr := fun h => hSf (W.sub _ h)
  have hsub : ∀ b ∈ wr, b ∈ S :: wr := fun b hb => List.mem_cons_of_mem _ hb
  have same : ∀ {s1 s2 : Shared} {f : Str → Bool} {m : Nat}, Moved wr G s1 s2 → s1.heap.SetOf (PySem.strKind prog w) S f m → s2.heap.SetOf (PySem.strKind prog w) S f m := fun hm ⟨o, es, ep, t, ho, rest⟩ => ⟨o, es, ep, t, hm.heap S _ hSw ho, rest⟩
  intro k
  induction k with
  | zero =>
    intro i s hk hi hst hS hR
    obtain rfl : i = n := by omega
    refine codeAny_builtin PyProof.Rows.F.entry_set_update_loop ?_
    rw [Around.under_plainId PyProof.Rows.F.plain_set_update_loop _]
    show wpAny _ A.in1 (pyNext (.ref I) >>= _) _ _ s
    refine wpAny_bind (W.done s _ _ hst fun s' hm => ?_)
    show wpAny _ A.in1 (ret Value.none) _ _ s'
    exact wpAny_pure (hR s' (hm.mono hsub) (same hm hS))
  | succ k ih =>
    intro i s hk hi hst hS hR
    have hlt : i < n := by omega
    refine codeAny_builtin PyProof.Rows.F.entry_set_update_loop ?_
    rw [Around.under_plainId PyProof.Rows.F.plain_set_update_loop _]
    show wpAny _ A.in1 (pyNext (.ref I) >>= _) _ _ s
    refine wpAny_bind (W.item i s _ _ hlt hst fun v s' hP hst' hm => ?_)
    obtain ⟨t, rfl⟩ := hval i v hP
    have hS' := same hm hS
    show wpAny _ A.in1 (holding [Value.str (xs.getD i Str.empty) t] (setAdd S (.str (xs.getD i Str.empty) t)) >>= _) _ _ s'
    refine wpAny_bind (wpAny_holding ?_)
    unfold setAdd
    refine wpAny_holding ?_
    refine wpAny_bind ((PySem.strKind prog w).pyHash (k := xs.getD i Str.empty) (strKind_is _ _ _ _) ?_)
    refine wpAny_setAddHashed_of (knd := PySem.strKind prog w) (s := { s' with toks := s'.toks + 1 }) (strKind_is _ _ _ _) rfl hS' (by omega) fun h' hsb hS2 => ?_
    have hx : xs[i]? = some (xs.getD i Str.empty) := by rw [List.getD_eq_getElem?_getD, List.getElem?_eq_getElem (by omega)]; rfl
    have tk1 : xs.take (i + 1) = xs.take i ++ [xs.getD i Str.empty] := by rw [List.take_add_one, hx]; rfl
    have new : (xs.take i).any (· == xs.getD i Str.empty) = false := by
      rw [List.any_eq_false]
      intro y hy e
      have e : y = xs.getD i Str.empty := eq_of_beq e
      have h2 := nd.sublist (List.take_sublist (i + 1) xs)
      rw [tk1, List.nodup_append] at h2
      exact h2.2.2 _ hy _ (List.mem_singleton.mpr rfl) e
    have hSi : h'.SetOf (PySem.strKind prog w) S (fun k' => (xs.take (i + 1)).any (· == k')) (i + 1) := by
      refine PyProof.Rows.SetOf_congr hS2 (fun k' => ?_) (by rw [new]; rfl)
      show ((xs.take i).any (· == k') || decide (k' = xs.getD i Str.empty)) = (xs.take (i + 1)).any (· == k')
      rw [tk1, List.any_append, List.any_cons, List.any_nil, Bool.or_false]
      congr 1
      by_cases e : k' = xs.getD i Str.empty
      · rw [decide_eq_true e, ← e, beq_self_eq_true]
      · rw [decide_eq_false e]
        exact (beq_eq_false_iff_ne.mpr fun z => e z.symm).symm
    refine wpAny_pure ⟨plainId_quiet PyProof.Rows.F.plain_set_update_loop _, ih (i + 1) _ (by omega) hlt (W.frame _ s' _ _ hst' (Nat.le_succ _) fun b hb o e => ?_) hSi fun s'' hm'' hS'' => ?_⟩
    · rw [hsb.2 b (fun h : b = S => hSf (by rw [← h]; exact hb))]; exact e
    · refine hR s'' (Moved.trans W.gtrans ((hm.mono hsub).then_heap (Nat.le_succ _) fun b o hb e => ?_) hm'') hS''
      rw [hsb.2 b (fun h : b = S => hb (by rw [h]; exact List.mem_cons_self))]; exact e
end
section
variable {prog : Program} {w : World} {A : Around} {E : Value → Shared → Prop} {s : Shared}
theorem call_set_texts {l : Addr} {items : Array Value} {xs : List Str} {Q : Value → Shared → Prop}
    (hh : A.handled = none) (hl : s.heap.IsList l items) (hi : PyProof.Rows.StrsAre items.toList xs) (nd : xs.Nodup) (hn1 : xs.length + 1 < scanBound)
    (h : ∀ (h' : Heap) (tk : Nat), h'.SetOf (PySem.strKind prog w) s.heap.objs.size (fun k' => (xs.take items.size).any (· == k')) items.size →
      (∀ b o, b < s.heap.objs.size → s.heap.get? b = some o → h'.get? b = some o) → Q (.ref s.heap.objs.size) { s with heap := h', toks := tk }) :
    wpAny (model prog w) A (call (.type "set") [.ref l]) Q E s := by
  obtain ⟨c, tl, hmro⟩ := PySem.F.called_set.mro
  have hmade := PySem.F.called_set.made
  have hsub := PySem.F.called_set.sub
  refine wpAny_call (codeAny_of_tree ?_)
  show wpAny _ _ (callAny (.type "set") _) _ _ _
  refine wpAny_pure ⟨Code.quiet_builtin _ (by decide +kernel), codeAny_builtin PySem.F.entry_type_call ?_⟩
  rw [Around.under_plain (weight_type_call_type "set" [.ref l] []) rfl]
  have h1 := PySem.F.called_set.notType
  have h2 := PySem.F.called_set.canCreate
  have hct := PySem.F.typeCall_set_1 (.ref l)
  repeat (any_goals (first | assumption | wp_step))

  refine codeAny_mono (code_set_new_1 (.ref l) (E := E) (Q₁ := fun obj s₁ => ∃ led : Bool, obj = .ref s.heap.objs.size ∧ s₁ = { s with heap := s.heap.push { cls := .type "set", dict := none, data := .set #[] 0 (.fresh 0 0 led) } }) fun led => ⟨led, rfl, rfl⟩) fun r s₁ hr => ?_
  cases r with
  | error e => exact hr
  | ok fl =>
    cases fl with
    | ret obj =>
      obtain ⟨led, rfl, rfl⟩ := hr
      have hS : (s.heap.push { cls := .type "set", dict := none, data := .set #[] 0 (.fresh 0 0 led) }).get? s.heap.objs.size = some { cls := .type "set", dict := none, data := .set #[] 0 (.fresh 0 0 led) } := Heap.get?_push_size _ rfl
      have hT : Shared.TypeIs { s with heap := s.heap.push { cls := .type "set", dict := none, data := .set #[] 0 (.fresh 0 0 led) } } (.ref s.heap.objs.size) "set" := ⟨_, hS, rfl⟩
      have hli := PySem.F.called_set.init.lookup
      have hbi := PySem.F.called_set.init.bind (.ref s.heap.objs.size)
      repeat (any_goals (first | assumption | wp_step))

      refine codeAny_mono (codeAny_call_builtin (R := wants (fun r s₂ => r = .none ∧ ∃ h' tk, s₂ = { s with heap := h', toks := tk } ∧
          h'.SetOf (PySem.strKind prog w) s.heap.objs.size (fun k' => (xs.take items.size).any (· == k')) items.size ∧
          (∀ b o, b < s.heap.objs.size → s.heap.get? b = some o → h'.get? b = some o)) E) PySem.F.called_set.init.plain PySem.F.entry_set_init (check_set_init_1 hT ?_)) fun r₂ s₂ hr₂ => ?_
      · obtain ⟨ol, hol, hcl, nl, hdl⟩ := hl
        obtain ⟨ocls, odict, odata, oslots⟩ := ol
        simp only at hcl hdl
        subst hcl; subst hdl
        have hol' : (s.heap.push { cls := .type "set", dict := none, data := .set #[] 0 (.fresh 0 0 led) }).get? l = some { cls := .type "list", dict := odict, data := .seq items nl, slots := oslots } := Heap.get?_push_of_some _ hol
        have hsls := PySem.F.sub_list_set
        have hslf := PySem.F.sub_list_frozenset
        have hne : (Value.type "list" == Value.type "dict") = false := by decide
        have hl1 : (s.heap.push { cls := .type "set", dict := none, data := .set #[] 0 (.fresh 0 0 led) }).IsList l items := ⟨_, hol', rfl, nl, rfl⟩
        unfold Builtin.«set.__init__» noKeywords Builtin.Frozenset.updateFrom
        generalize hPI : pyIter = PI
        wp_walk
        subst hPI

        refine wpAny_pyIter_list hl1 ?_
        refine wpAny_bind (wpAny_runValue ?_)
        have hlS : l < s.heap.objs.size := Heap.lt_size hol
        have hh3 : A.in1.in1.in1.handled = none := by simp [hh]
        have hneI : l ≠ (s.heap.push { cls := .type "set", dict := none, data := .set #[] 0 (.fresh 0 0 led) }).objs.size := by
          rw [Heap.size_push]; exact Nat.ne_of_lt (Nat.lt_succ_of_lt hlS)
        have hSf : s.heap.objs.size ∉ [(s.heap.push { cls := .type "set", dict := none, data := .set #[] 0 (.fresh 0 0 led) }).objs.size, l] := by
          rw [Heap.size_push]; simp only [List.mem_cons, List.mem_singleton, List.not_mem_nil, or_false, not_or]
          exact ⟨Nat.ne_of_lt (Nat.lt_succ_self _), Nat.ne_of_gt hlS⟩
        have hsz : xs.length = items.size := by rw [← StrsAre.len_eq hi, Array.length_toList]
        have hval : ∀ (i : Nat) (v : Value), items[i]? = some v → ∃ t, v = .str (xs.getD i Str.empty) t := fun i v hv => SS.strs_at hi i v (by rw [Array.getElem?_toList]; exact hv)
        refine loopTx ((Walks.list hh3 _ l hneI items).toS) s.heap.objs.size
          hSf xs hsz nd (by rw [← hsz]; exact hn1) hval (items.size - 0) 0 _ (by omega) (Nat.zero_le _)
          ⟨⟨_, Heap.get?_push_size _ rfl, rfl, rfl⟩, (hl1.push _)⟩ ?hS0 ?hR
        case hS0 =>
          have hget : ((s.heap.push { cls := .type "set", dict := none, data := .set #[] 0 (.fresh 0 0 led) }).push { cls := .type "list_iterator", data := .fields #[.ref l, .int 0 0] }).get? s.heap.objs.size
              = some { cls := .type "set", dict := none, data := .set #[] 0 (.fresh 0 0 led) } := Heap.get?_push_of_some _ hS
          exact PyProof.Rows.SetOf_congr ((PyProof.Rows.setObjOf_fresh (knd := PySem.strKind prog w) led).setOf hget (by unfold scanBound; omega)) (fun _ => rfl) rfl
        case hR =>
          intro s' hm hS'
          obtain ⟨h', g', d', tk', os'⟩ := s'
          have eg : g' = s.gens := hm.gens
          have ed : d' = s.drawn := hm.drawn
          have eo : os' = s.os := hm.os
          subst eg; subst ed; subst eo
          show wpAny _ _ _ _ _ _
          refine wpAny_pure ?_
          show wpAny _ _ (ret Value.none) _ _ _
          refine wpAny_pure ⟨rfl, h', tk', rfl, hS', fun b o hb e => ?_⟩
          have hb1 : b ≠ s.heap.objs.size := Nat.ne_of_lt hb
          have hb2 : b ≠ (s.heap.push { cls := .type "set", dict := none, data := .set #[] 0 (.fresh 0 0 led) }).objs.size := by
            rw [Heap.size_push]; exact Nat.ne_of_lt (Nat.lt_succ_of_lt hb)
          exact hm.heap b o (by simp only [List.mem_cons, List.mem_singleton, List.not_mem_nil, or_false, not_or]; exact ⟨hb1, hb2⟩) (Heap.get?_push_of_some _ (Heap.get?_push_of_some _ e))

      · cases r₂ with
        | error e => exact hr₂
        | ok fl₂ =>
          cases fl₂ with
          | ret r =>
            obtain ⟨rfl, h', tk, rfl, hS', hk'⟩ := hr₂
            repeat (any_goals (first | assumption | wp_step))
            exact h _ _ hS' hk'
          | _ => exact hr₂.elim
    | _ => exact hr.elim
end
def lenSetD : D → Option D
  | .lst xs => (strsD xs).bind fun zs => if zs.Nodup ∧ zs.length ≤ 4000 then some (.int (zs.length : Nat)) else none
  | _ => none
def cLenSet (m : EM) : EM := fun ρ st => (m ρ st).bind fun x st1 => Res.of (lenSetD x) st1
def tLenSetU (K : PySem.W.Frag) (ta : TE) : TE := fun σ H Q => ta σ H fun x H1 => ∃ l, ∃ xs : List Str, x = .ref l ∧ SqL K H1 l (xs.map V.str) ∧ xs.Nodup ∧ xs.length ≤ 4000 ∧ Q (.int xs.length) H1
section
variable {X : Cx} {Tb : Tbs} {ra : RA Tb} {E : XK}
theorem pe_lenSetU {a : Expr} {ta : TE} {p p2 q pos : Pos} (hc : X.calm = true) (hg : Gl X "len") (hm : X.mg "len" = none) (hg2 : Gl X "set") (hm2 : X.mg "set" = none) (ha : PE X a ta)
    (na : starEach [a] X.env = (false, eval a X.env) :: starEach [] X.env := by rfl) : PE X (.Call (.Name "len" p) [.Call (.Name "set" p2) [a] [] q] [] pos) (tLenSetU X.K ta) := by
  refine ⟨fun pins s σ H Q I h => ?_⟩
  refine Call_ (ld_blt I hg hm boot_len ?_)
  refine callWith_builtin1 (args_cons ?_ rfl) rfl rfl
  refine Call_ (ld_blt I hg2 hm2 boot_set ?_)
  refine callWith_type1 (args_cons (thn (ha.run pins s σ H _ I h) fun v s1 ⟨x, H1, I1, r1, q1⟩ => args_nil ?_) na) na rfl
  obtain ⟨l, xs, rfl, hq, nd, h1, q1⟩ := q1
  cases r1
  obtain ⟨its, r, pl, hz⟩ := I1.list hq
  refine call_set_texts (I1.ok.hd hc) pl.isList (by simpa using strsAre_of r) nd (by unfold scanBound; omega) fun h' tk hS hk => args_nil ?_
  have hl : its.toArray.size = xs.length := by rw [List.size_toArray, ← r.length, List.length_map]
  rw [hl] at hS
  obtain ⟨o, es, ep, t, ho, hex, hd, _, _, _, hf, hn⟩ := hS
  have I2 : Inv X pins σ H1 { s1 with heap := h', toks := tk } := I1.kept fun b o e => hk b o (Heap.lt_size e) e
  exact call_len_set ho hex hd hf (by rw [hn] <;> omega) ⟨.int xs.length, H1, I2.tok _, ⟨_, by rw [hn]⟩, q1⟩
theorem de_lenSet {a : Expr} {ma : EM} {p p2 q pos : Pos} (hc : X.calm = true) (hg : Gl X "len") (hm : X.mg "len" = none) (hg2 : Gl X "set") (hm2 : X.mg "set" = none) (ha : DE X ra E a ma)
    (na : starEach [a] X.env = (false, eval a X.env) :: starEach [] X.env := by rfl) : DE X ra E (.Call (.Name "len" p) [.Call (.Name "set" p2) [a] [] q] [] pos) (cLenSet ma) :=
  PE.imp (pe_lenSetU hc hg hm hg2 hm2 ha na) fun σ H Q ⟨B, ρ, st, p, q⟩ => ⟨B, ρ, st, p, Post.seq q fun x st1 vx H1 _ e1 w1 rx q1 => by
    cases x with
    | lst xs =>
      have q1 : EPost (pr X ra) B H1 E Q (Res.of ((strsD xs).bind fun zs => if zs.Nodup ∧ zs.length ≤ 4000 then some (.int (zs.length : Nat)) else none) st1) := q1
      obtain ⟨l, vs, rfl, hl, hb, rs⟩ := rx
      cases hz : strsD xs with
      | none => rw [hz] at q1; exact q1.elim
      | some zs =>
        rw [hz] at q1
        have ev := strsD_reps hz rs
        subst ev
        by_cases hc : zs.Nodup ∧ zs.length ≤ 4000
        · have q1 : EPost (pr X ra) B H1 E Q (Res.of (if zs.Nodup ∧ zs.length ≤ 4000 then some (.int (zs.length : Nat)) else none) st1) := q1
          rw [if_pos hc] at q1
          exact ⟨l, zs, rfl, SqL.of hl, hc.1, hc.2, q1 _ H1 Ext.refl w1 rfl⟩
        · have q1 : EPost (pr X ra) B H1 E Q (Res.of (if zs.Nodup ∧ zs.length ≤ 4000 then some (.int (zs.length : Nat)) else none) st1) := q1
          rw [if_neg hc] at q1
          exact q1.elim
    | _ => exact q1.elim⟩
end
end Ev

namespace Ev
open PySem PySem.Spec PyProof.Rows L2
/-! ### a, b = a list -/
def sUnpL (is : List Nat) (g : GM) : SM := fun ρ st => (g ρ st).bind fun q st1 => match q.1 with
  | .lst ds => if ds.length = is.length ∧ is.all (notLent q.2) = true then .ok (.nx, setAll q.2 (is.zip (ds.map fun d => (Kd.sh, d)))) st1 else .stuck
  | _ => .stuck
section
variable {X : Cx} {Tb : Tbs} {ra : RA Tb} {E : XK} {e : Expr} {gm : GM} {pos p : Pos}
theorem ds_unpL {es : List Expr} {is : List Nat} {k : Nat} (h : DG X ra E e gm) (hc : X.calm = true) (hnm : NmsOk X es is) (hn : (assignEach es X.env).length = is.length := by rfl) (hst : (assignEach es X.env).findIdx? (·.1) = none := by rfl)
    (hs : swapsWithSole [.Tuple es k p] e pos.line X.env = pure false := by rfl) (hw : swappedStores [.Tuple es k p] e X.env = pure none := by rfl)
    (h1 : (assignEach [.Tuple es k p] X.env).map (·.2) = [assign (.Tuple es k p) X.env] := by rfl) : DSt X ra E (.Assign [.Tuple es k p] e pos) (sUnpL is gm) := by
  refine PS.imp (ps_asg h (pg_lst (n := is.length) hc hnm.pgs hn hst) hs hw h1) fun N σ H ⟨H0, B, τ, ρ, st, g, q⟩ => ⟨H0, B, τ, ρ, st, g, SPost.ofG q fun d ρ' st1 v H1 g1 r q1 => ?_⟩
  cases d with
  | lst ds =>
    by_cases hl : ds.length = is.length ∧ is.all (notLent ρ') = true
    · have q1 : SPost (pr X ra) H0 B τ E N (if ds.length = is.length ∧ is.all (notLent ρ') = true then .ok (.nx, setAll ρ' (is.zip (ds.map fun d => (Kd.sh, d)))) st1 else .stuck) := q1
      rw [if_pos hl] at q1
      obtain ⟨a, vs, rfl, s, hb, rs⟩ := r
      exact ⟨a, vs, rfl, SqL.of s, by rw [rs.length]; exact hl.1, gAll_of (by rw [rs.length]; exact hl.1) (q1 _ H1 (GoodC.sets is ds vs g1 hl.2 rs))⟩
    · have q1 : SPost (pr X ra) H0 B τ E N (if ds.length = is.length ∧ is.all (notLent ρ') = true then .ok (.nx, setAll ρ' (is.zip (ds.map fun d => (Kd.sh, d)))) st1 else .stuck) := q1
      rw [if_neg hl] at q1
      exact q1.elim
  | _ => exact q1.elim
theorem s_unpL {is : List Nat} {ρ ρ' : SE} {st st1 : DS} {ds : List D} (h : gm ρ st = .ok (.lst ds, ρ') st1) (hl : ds.length = is.length ∧ is.all (notLent ρ') = true) : sUnpL is gm ρ st = .ok (.nx, setAll ρ' (is.zip (ds.map fun d => (Kd.sh, d)))) st1 := by
  unfold sUnpL
  rw [h]
  show (if _ then _ else _) = _
  rw [if_pos hl]
end
end Ev

namespace Ev
open PySem PySem.Spec PyProof.Rows L2
/-! ### l[a], l[b] = two ints, a list of one's own -/
def sSub2 (i : Nat) (mi mj : EM) (gm : GM) : SM := fun ρ st => (gm ρ st).bind fun q st1 => match q.1 with
  | .tup [.int u, .int w] => match q.2[i]? with
    | some (some (.own, .lst xs)) => (mi (er q.2) st1).bind fun j st2 => match ixD xs.length j with
      | some k => (mj (er (q.2.set i (some (.own, .lst (xs.set k (.int u)))))) st2).bind fun j' st3 => match ixD xs.length j' with
        | some k' => .ok (.nx, (q.2.set i (some (.own, .lst (xs.set k (.int u))))).set i (some (.own, .lst ((xs.set k (.int u)).set k' (.int w))))) st3
        | none => .stuck
      | none => .stuck
    | _ => .stuck
  | _ => .stuck
section
variable {X : Cx} {Tb : Tbs} {ra : RA Tb} {E : XK} {e : Expr} {gm : GM} {pos p p2 p3 : Pos}
theorem ds_sub2 {o o' j j' : Expr} {i kk : Nat} {mi mj : EM} (hc : X.calm = true) (ho : PE X o (tVar i)) (ho' : PE X o' (tVar i)) (hj : DE X ra E j mi) (hj' : DE X ra E j' mj) (he : DG X ra E e gm)
    (ha : ∀ v, assign (.Subscript o j p2) X.env v = (do
      let ov ← holding [v] (eval o X.env)
      let iv ← holding [v, ov] (eval j X.env)
      standAt p2
      holding [v, ov, iv] (setItem ov iv v)
      release [v, ov, iv] []) := by intro _; rfl)
    (ha' : ∀ v, assign (.Subscript o' j' p3) X.env v = (do
      let ov ← holding [v] (eval o' X.env)
      let iv ← holding [v, ov] (eval j' X.env)
      standAt p3
      holding [v, ov, iv] (setItem ov iv v)
      release [v, ov, iv] []) := by intro _; rfl)
    (hsA : (assignEach [.Subscript o j p2, .Subscript o' j' p3] X.env).map (·.2) = assign (.Subscript o j p2) X.env :: (assignEach [.Subscript o' j' p3] X.env).map (·.2) := by rfl)
    (hsB : (assignEach [.Subscript o' j' p3] X.env).map (·.2) = assign (.Subscript o' j' p3) X.env :: (assignEach [] X.env).map (·.2) := by rfl)
    (hn : (assignEach [.Subscript o j p2, .Subscript o' j' p3] X.env).length = 2 := by rfl) (hst : (assignEach [.Subscript o j p2, .Subscript o' j' p3] X.env).findIdx? (·.1) = none := by rfl)
    (hs : swapsWithSole [.Tuple [.Subscript o j p2, .Subscript o' j' p3] kk p] e pos.line X.env = pure false := by rfl) (hw : swappedStores [.Tuple [.Subscript o j p2, .Subscript o' j' p3] kk p] e X.env = pure none := by rfl)
    (h1 : (assignEach [.Tuple [.Subscript o j p2, .Subscript o' j' p3] kk p] X.env).map (·.2) = [assign (.Tuple [.Subscript o j p2, .Subscript o' j' p3] kk p) X.env] := by rfl) : DSt X ra E (.Assign [.Tuple [.Subscript o j p2, .Subscript o' j' p3] kk p] e pos) (sSub2 i mi mj gm) := by
  refine PS.imp (ps_asg he (pg_tup (n := 2) hc (pgs_cons (pg_sub ho hj set_list ha) (pgs_cons (pg_sub ho' hj' set_list ha') pgs_nil hsB) hsA) hn hst) hs hw h1) fun N σ H ⟨H0, B, τ, ρ, st, g, q⟩ => ?_
  refine ⟨H0, B, τ, ρ, st, g, SPost.ofG q fun d ρ' st1 v H1 g1 r q1 => ?_⟩
  split at q1
  · rename_i u w hd
    have hd : d = .tup [.int u, .int w] := hd
    subst hd
    obtain ⟨t, vs, rfl, hq, rs⟩ := r
    obtain ⟨v1, vs1, rfl, r1, rs⟩ := Reps.uncons rs
    obtain ⟨v2, vs2, rfl, r2, rs⟩ := Reps.uncons rs
    cases (show vs2 = [] from rs)
    refine ⟨t, [v1, v2], rfl, hq, rfl, v1, [v2], rfl, ?_⟩
    have e1 := rep_int r1
    have e2 := rep_int r2
    subst e1; subst e2
    have q1 : SPost (pr X ra) H0 B τ E N (match ρ'[i]? with
      | some (some (.own, .lst xs)) => (mi (er ρ') st1).bind fun j st2 => match ixD xs.length j with
        | some k => (mj (er (ρ'.set i (some (.own, .lst (xs.set k (.int u)))))) st2).bind fun j' st3 => match ixD xs.length j' with
          | some k' => .ok (.nx, (ρ'.set i (some (.own, .lst (xs.set k (.int u))))).set i (some (.own, .lst ((xs.set k (.int u)).set k' (.int w))))) st3
          | none => .stuck
        | none => .stuck
      | _ => .stuck) := q1
    split at q1
    · rename_i xs hx
      obtain ⟨a, hs, z1, z2, z3⟩ := g1.own i .own _ hx (by decide)
      refine ⟨.ref a, hs, B, er ρ', st1, g1.pre, SPost.ofE g1.ext (fun _ _ _ x => x) q1 fun jd st2 jv H2 hq2 e2 w2 rj q2 => ?_⟩
      clear hq2
      split at q2
      · rename_i k hk
        obtain ⟨z, rfl, hz⟩ := ixD_some hk
        have g2 := g1.step e2 w2
        obtain ⟨a', hs', z1', z2', z3'⟩ := g2.own i .own _ hx (by decide)
        rw [hs] at hs'
        cases hs'
        obtain ⟨vs, f1, f2⟩ := top_lst z3'
        refine ⟨a, vs, z, k, rfl, rep_int rj, f1, by rw [f2.length]; exact hz, ?_⟩
        have g3 := g2.mutL hx hs (f2.set k (d := .int u) (v := V.int u) (show V.int u = V.int u from rfl))
        have hx3 : (ρ'.set i (some (.own, .lst (xs.set k (.int u)))))[i]? = some (some (.own, .lst (xs.set k (.int u)))) := by
          rw [List.getElem?_set_self (List.getElem?_eq_some_iff.mp hx).1]
        obtain ⟨a3, hs3, y1, y2, y3⟩ := g3.own i .own _ hx3 (by decide)
        rw [hs] at hs3
        cases hs3
        refine ⟨V.int w, [], rfl, .ref a, hs, B, _, st2, g3.pre, SPost.ofE g3.ext (fun _ _ _ x => x) q2 fun jd' st3 jv' H3 hq3 e3 w3 rj' q3 => ?_⟩
        clear hq3
        split at q3
        · rename_i k' hk'
          obtain ⟨z', rfl, hz'⟩ := ixD_some hk'
          have g4 := g3.step e3 w3
          obtain ⟨a4, hs4, z14, z24, z34⟩ := g4.own i .own _ hx3 (by decide)
          rw [hs] at hs4
          cases hs4
          obtain ⟨vs4, f14, f24⟩ := top_lst z34
          refine ⟨a, vs4, z', k', rfl, rep_int rj', f14, by rw [f24.length, List.length_set]; exact hz', ?_⟩
          exact ⟨rfl, q3 σ _ (g4.mutL hx3 hs (f24.set k' (d := .int w) (v := V.int w) (show V.int w = V.int w from rfl)))⟩
        · exact q3.elim
      · exact q2.elim
    · exact q1.elim
  · exact q1.elim
end
end Ev

namespace Ev
open PySem PySem.Spec PyProof.Rows L2
/-! ### sorted(set(l)), a list of ints -/
section
variable {P : Program} {w : World} {A : Around} {E : Value → Shared → Prop} {s : Shared}
theorem call_set_intsL {l : Addr} {items : Array Value} (ns : List Int) {Q : Value → Shared → Prop} (hh : A.handled = none) (hl : s.heap.IsList l items) (hit : IntsAre items.toList ns) (hb : ns.length + 1 < scanBound)
    (h : ∀ (h' : Heap) (tk c : Nat), SetR w h' s.heap.objs.size (fun j => decide (j ∈ ns)) c → c ≤ ns.length → (∀ b o, s.heap.get? b = some o → h'.get? b = some o) → Q (.ref s.heap.objs.size) { s with heap := h', toks := tk }) :
    wpAny (model P w) A (call (.type "set") [.ref l]) Q E s := by
  have hisz : items.size = ns.length := by
    have q := IntsAre.length hit
    rw [Array.length_toList] at q
    exact q
  obtain ⟨c, tl, hmro⟩ := PySem.F.called_set.mro
  have hmade := PySem.F.called_set.made
  have hsub := PySem.F.called_set.sub
  refine wpAny_call (codeAny_of_tree ?_)
  show wpAny _ _ (callAny (.type "set") _) _ _ _
  refine wpAny_pure ⟨Code.quiet_builtin _ (by decide +kernel), codeAny_builtin PySem.F.entry_type_call ?_⟩
  rw [Around.under_plain (weight_type_call_type "set" [.ref l] []) rfl]
  have h1 := PySem.F.called_set.notType
  have h2 := PySem.F.called_set.canCreate
  have hct := PySem.F.typeCall_set_1 (.ref l)
  repeat (any_goals (first | assumption | wp_step))

  refine codeAny_mono (code_set_led1 (.ref l) (E := E) (Q₁ := fun obj s₁ => obj = .ref s.heap.objs.size ∧ s₁ = { s with heap := s.heap.push { cls := .type "set", dict := none, data := .set #[] 0 (.fresh 0 0 (!w.params.followText "set-order")) } }) ⟨rfl, rfl⟩) fun r s₁ hr => ?_
  cases r with
  | error e => exact hr
  | ok fl =>
    cases fl with
    | ret obj =>
      obtain ⟨rfl, rfl⟩ := hr
      have hS : (s.heap.push { cls := .type "set", dict := none, data := .set #[] 0 (.fresh 0 0 (!w.params.followText "set-order")) }).get? s.heap.objs.size = some { cls := .type "set", dict := none, data := .set #[] 0 (.fresh 0 0 (!w.params.followText "set-order")) } := Heap.get?_push_size _ rfl
      have hT : Shared.TypeIs { s with heap := s.heap.push { cls := .type "set", dict := none, data := .set #[] 0 (.fresh 0 0 (!w.params.followText "set-order")) } } (.ref s.heap.objs.size) "set" := ⟨_, hS, rfl⟩
      have hli := PySem.F.called_set.init.lookup
      have hbi := PySem.F.called_set.init.bind (.ref s.heap.objs.size)
      repeat (any_goals (first | assumption | wp_step))

      refine codeAny_mono (codeAny_call_builtin (R := wants (fun r s₂ => r = .none ∧ ∃ h' tk c, s₂ = { s with heap := h', toks := tk } ∧ SetR w h' s.heap.objs.size (fun j => decide (j ∈ ns)) c ∧ c ≤ ns.length ∧
          (∀ b o, s.heap.get? b = some o → h'.get? b = some o)) E) PySem.F.called_set.init.plain PySem.F.entry_set_init (check_set_init_1 hT ?_)) fun r₂ s₂ hr₂ => ?_
      · obtain ⟨ol, hol, hcl, nl, hdl⟩ := hl
        obtain ⟨ocls, odict, odata, oslots⟩ := ol
        simp only at hcl hdl
        subst hcl; subst hdl
        have hol' : (s.heap.push { cls := .type "set", dict := none, data := .set #[] 0 (.fresh 0 0 (!w.params.followText "set-order")) }).get? l = some { cls := .type "list", dict := odict, data := .seq items nl, slots := oslots } := Heap.get?_push_of_some _ hol
        have hsls := PySem.F.sub_list_set
        have hslf := PySem.F.sub_list_frozenset
        have hne : (Value.type "list" == Value.type "dict") = false := by decide
        have hl1 : (s.heap.push { cls := .type "set", dict := none, data := .set #[] 0 (.fresh 0 0 (!w.params.followText "set-order")) }).IsList l items := ⟨_, hol', rfl, nl, rfl⟩
        unfold Builtin.«set.__init__» noKeywords Builtin.Frozenset.updateFrom
        generalize hPI : pyIter = PI
        wp_walk
        subst hPI

        refine wpAny_pyIter_list hl1 ?_
        refine wpAny_bind (wpAny_runValue ?_)
        have hlS : l < s.heap.objs.size := Heap.lt_size hol
        have hh3 : A.in1.in1.in1.handled = none := by simp [hh]
        have hz1 : (s.heap.push { cls := .type "set", dict := none, data := .set #[] 0 (.fresh 0 0 (!w.params.followText "set-order")) }).objs.size = s.heap.objs.size + 1 := Heap.size_push ..
        have hneI : l ≠ (s.heap.push { cls := .type "set", dict := none, data := .set #[] 0 (.fresh 0 0 (!w.params.followText "set-order")) }).objs.size := by
          rw [Heap.size_push]; exact Nat.ne_of_lt (Nat.lt_succ_of_lt hlS)
        have hSf : s.heap.objs.size ∉ [(s.heap.push { cls := .type "set", dict := none, data := .set #[] 0 (.fresh 0 0 (!w.params.followText "set-order")) }).objs.size, l] := by
          rw [Heap.size_push]; simp only [List.mem_cons, List.mem_singleton, List.not_mem_nil, or_false, not_or]
          exact ⟨Nat.ne_of_lt (Nat.lt_succ_self _), Nat.ne_of_gt hlS⟩
        have hval : ∀ (i : Nat) (v : Value), items[i]? = some v → ∃ k t, ns[i]? = some k ∧ v = .int k t := fun i v hv => by
          have hi : i < ns.length := by rw [← hisz]; exact (Array.getElem?_eq_some_iff.mp hv).1
          obtain ⟨t, e⟩ := PyProof.Rows.IntsAre.int_at hit i v (by rw [Array.getElem?_toList]; exact hv)
          refine ⟨ns[i], t, List.getElem?_eq_getElem hi, ?_⟩
          rw [e, List.getD_eq_getElem?_getD, List.getElem?_eq_getElem hi] <;> rfl
        refine set_update_ints ((Walks.list hh3 _ l hneI items).toS) s.heap.objs.size
          hSf ns hisz hb hval (items.size - 0) 0 _ (by omega) (Nat.zero_le _)
          ⟨⟨_, Heap.get?_push_size _ rfl, rfl, rfl⟩, (hl1.push _)⟩ ?hS0 ?hR
        case hS0 =>
          have hget : ((s.heap.push { cls := .type "set", dict := none, data := .set #[] 0 (.fresh 0 0 (!w.params.followText "set-order")) }).push { cls := .type "list_iterator", data := .fields #[.ref l, .int 0 0] }).get? s.heap.objs.size
              = some { cls := .type "set", dict := none, data := .set #[] 0 (.fresh 0 0 (!w.params.followText "set-order")) } := Heap.get?_push_of_some _ hS
          exact ⟨0, Nat.le_refl 0, setR_new_at hget⟩
        case hR =>
          intro s' c' hm hc' hS'
          obtain ⟨h', g2, d', tk', os'⟩ := s'
          have eg : g2 = s.gens := hm.gens
          have ed : d' = s.drawn := hm.drawn
          have eo : os' = s.os := hm.os
          subst eg; subst ed; subst eo
          show wpAny _ _ _ _ _ _
          refine wpAny_pure ?_
          show wpAny _ _ (ret Value.none) _ _ _
          rw [hisz] at hc'
          refine wpAny_pure ⟨rfl, h', tk', c', rfl, hS', hc', fun b o e => ?_⟩
          have hb0 : b < s.heap.objs.size := Heap.lt_size e
          have hb1 : b ≠ s.heap.objs.size := Nat.ne_of_lt hb0
          have hb2 : b ≠ (s.heap.push { cls := .type "set", dict := none, data := .set #[] 0 (.fresh 0 0 (!w.params.followText "set-order")) }).objs.size := by
            rw [Heap.size_push]; exact Nat.ne_of_lt (Nat.lt_succ_of_lt hb0)
          exact hm.heap b o (by simp only [List.mem_cons, List.mem_singleton, List.not_mem_nil, or_false, not_or]; exact ⟨hb1, hb2⟩) (Heap.get?_push_of_some _ (Heap.get?_push_of_some _ e))

      · cases r₂ with
        | error e => exact hr₂
        | ok fl₂ =>
          cases fl₂ with
          | ret r =>
            obtain ⟨rfl, h', tk, c', rfl, hS', hc', hk'⟩ := hr₂
            repeat (any_goals (first | assumption | wp_step))
            exact h _ _ _ hS' hc' hk'
          | _ => exact hr₂.elim
    | _ => exact hr.elim

end
/-- the ints of a list, once each, ascending -/
def insU (a : Int) : List Int → List Int
  | [] => [a]
  | b :: l => if a < b then a :: b :: l else if a = b then b :: l else b :: insU a l
def srtU : List Int → List Int
  | [] => []
  | a :: l => insU a (srtU l)
theorem insU_mem {a k : Int} : ∀ {l : List Int}, k ∈ insU a l ↔ k = a ∨ k ∈ l
  | [] => by simp [insU]
  | b :: l => by
    unfold insU
    split
    · simp
    · split
      · rename_i e
        subst e
        simp
      · rw [List.mem_cons, insU_mem, List.mem_cons]
        exact ⟨fun h => h.elim (fun h => .inr (.inl h)) fun h => h.elim .inl fun h => .inr (.inr h), fun h => h.elim (fun h => .inr (.inl h)) fun h => h.elim .inl fun h => .inr (.inr h)⟩
theorem insU_asc {a : Int} : ∀ {l : List Int}, l.Pairwise (· < ·) → (insU a l).Pairwise (· < ·)
  | [], _ => List.pairwise_singleton ..
  | b :: l, h => by
    obtain ⟨h1, h2⟩ := List.pairwise_cons.mp h
    unfold insU
    split
    · rename_i c
      exact List.pairwise_cons.mpr ⟨fun k hk => (List.mem_cons.mp hk).elim (fun e => by rw [e]; exact c) fun e => Int.lt_trans c (h1 k e), h⟩
    · split
      · exact h
      · rename_i c d
        exact List.pairwise_cons.mpr ⟨fun k hk => (insU_mem.mp hk).elim (fun e => by rw [e]; omega) fun e => h1 k e, insU_asc h2⟩
theorem srtU_mem {k : Int} : ∀ {l : List Int}, k ∈ srtU l ↔ k ∈ l
  | [] => by simp [srtU]
  | a :: l => by rw [srtU, insU_mem, srtU_mem, List.mem_cons]
theorem srtU_asc : ∀ {l : List Int}, (srtU l).Pairwise (· < ·)
  | [] => List.Pairwise.nil
  | a :: l => insU_asc srtU_asc
theorem asc_one : ∀ {a b : List Int}, a.Pairwise (· < ·) → b.Pairwise (· < ·) → (∀ k, k ∈ a ↔ k ∈ b) → a = b
  | [], [], _, _, _ => rfl
  | [], y :: b, _, _, h => absurd ((h y).mpr List.mem_cons_self) (by simp)
  | x :: a, [], _, _, h => absurd ((h x).mp List.mem_cons_self) (by simp)
  | x :: a, y :: b, ha, hb, h => by
    obtain ⟨a1, a2⟩ := List.pairwise_cons.mp ha
    obtain ⟨b1, b2⟩ := List.pairwise_cons.mp hb
    have e : x = y := by
      rcases List.mem_cons.mp ((h x).mp List.mem_cons_self) with e | e
      · exact e
      · rcases List.mem_cons.mp ((h y).mpr List.mem_cons_self) with e2 | e2
        · exact e2.symm
        · have := a1 y e2
          have := b1 x e
          omega
    subst e
    rw [asc_one a2 b2 fun k => ⟨fun hk => (List.mem_cons.mp ((h k).mp (List.mem_cons_of_mem _ hk))).elim (fun e => by have := a1 k hk; omega) id, fun hk => (List.mem_cons.mp ((h k).mpr (List.mem_cons_of_mem _ hk))).elim (fun e => by have := b1 k hk; omega) id⟩]
def fSortSet (m : EM) : AM := fun ρ st => (m ρ st).bind fun x st1 => match x with
  | .lst xs => (Res.of (D.ints xs) st1).bind fun ns st1 => if ns.length ≤ 60 then .ok ((srtU ns).map D.int) st1 else .stuck
  | _ => .stuck
def tSortSetI (K : PySem.W.Frag) (ta : TE) : TE := fun σ H Q => ta σ H fun x H1 => ∃ (l : Addr) (ns : List Int), x = .ref l ∧ SqL K H1 l (ns.map V.int) ∧ ns.length ≤ 60 ∧ ∀ p, H1 p = none → Q (.ref p) (upd H1 p (.lst ((srtU ns).map V.int)))
section
variable {X : Cx} {Tb : Tbs} {ra : RA Tb} {E : XK}
theorem pe_sortSetI {a : Expr} {ta : TE} {p p2 q pos : Pos} (hc : X.calm = true) (hg : Gl X "sorted") (hm : X.mg "sorted" = none) (hg2 : Gl X "set") (hm2 : X.mg "set" = none) (ha : PE X a ta)
    (na : starEach [a] X.env = (false, eval a X.env) :: starEach [] X.env := by rfl) : PE X (.Call (.Name "sorted" p) [.Call (.Name "set" p2) [a] [] q] [] pos) (tSortSetI X.K ta) := by
  refine ⟨fun pins s σ H Q I h => ?_⟩
  refine Call_ (ld_blt I hg hm (show bootBuiltins "sorted" = some (.builtin "sorted") from rfl) ?_)
  refine callWith_builtin1 (args_cons ?_ rfl) rfl rfl
  refine Call_ (ld_blt I hg2 hm2 boot_set ?_)
  refine callWith_type1 (args_cons (thn (ha.run pins s σ H _ I h) fun v s1 ⟨x, H1, I1, r1, q1⟩ => args_nil ?_) na) na rfl
  obtain ⟨l, ns, rfl, hq, h1, q1⟩ := q1
  cases r1
  obtain ⟨its, r, pl, hz⟩ := I1.list hq
  refine call_set_intsL ns (I1.ok.hd hc) pl.isList (by simpa using r.ints) (by unfold scanBound; omega) fun h' tk c hS hc' hk => args_nil ?_
  have I2 : Inv X pins σ H1 { s1 with heap := h', toks := tk } := I1.kept fun b o e => hk b o e
  refine sorted_set hS (I2.ok.hd hc) (by omega) fun s' p out c2 ms k g o hp hg hi hs hm hl => ?_
  have em : ms = srtU ns := asc_one hs srtU_asc fun k => by rw [hm, srtU_mem, decide_eq_true_iff]
  subst em
  have hlen : ((srtU ns).map V.int).length ≤ sizeLine := by rw [List.length_map, hl, sizeLine_eq]; omega
  have hn : H1 p = none := I2.hok.fresh hp
  have hok : HOk X.prog X.w (upd H1 p (.lst ((srtU ns).map V.int))) s'.heap := I2.hok.laid k hp ⟨hlen, out.toList, c2, vals_of_ints hi, hg⟩
  have J : Inv X pins σ (upd H1 p (.lst ((srtU ns).map V.int))) s' := I2.call' (ch := []) o (Un.laid k hp hn) hok (by rw [g]; exact I2.bare) (fun _ z => nomatch z)
  exact ⟨.ref p, _, J, rfl, q1 p hn⟩
theorem ints_reps {P : Par} {H : Hp} {B : Addr → Prop} : ∀ {xs : List D} {ns : List Int} {vs : List V}, D.ints xs = some ns → Reps P H B xs vs → vs = ns.map V.int
  | [], ns, vs, h, r => by
    cases h
    rw [show vs = [] from r]
    rfl
  | .int i :: xs, ns, vs, h, r => by
    have h' : (D.ints xs).map (i :: ·) = some ns := h
    cases e : D.ints xs with
    | none => rw [e] at h'; cases h'
    | some ys =>
      rw [e] at h'
      cases h'
      obtain ⟨v, r', rfl, r1, r2⟩ := Reps.uncons r
      cases (show v = V.int i from r1)
      rw [ints_reps e r2]
      rfl
theorem int_reps {P : Par} {H : Hp} {B : Addr → Prop} : ∀ (ns : List Int), Reps P H B (ns.map D.int) (ns.map V.int)
  | [] => Reps.nil
  | _ :: ns => Reps.cons rfl (int_reps ns)
theorem df_sortSet {a : Expr} {ma : EM} {p p2 q pos : Pos} (hc : X.calm = true) (hg : Gl X "sorted") (hm : X.mg "sorted" = none) (hg2 : Gl X "set") (hm2 : X.mg "set" = none) (ha : DE X ra E a ma)
    (na : starEach [a] X.env = (false, eval a X.env) :: starEach [] X.env := by rfl) : DF X ra E (.Call (.Name "sorted" p) [.Call (.Name "set" p2) [a] [] q] [] pos) (fSortSet ma) :=
  PE.imp (pe_sortSetI hc hg hm hg2 hm2 ha na) fun σ H Q ⟨B, ρ, st, p, q⟩ => ⟨B, ρ, st, p, Post.seq q fun x st1 vx H1 hq1 e1 w1 rx q1 => by
    cases x with
    | lst xs =>
      obtain ⟨l, vs, rfl, hl, hb, rs⟩ := rx
      cases hz : D.ints xs with
      | none =>
        have q1 : Post (pr X ra) B H1 E _ Q ((Res.of (D.ints xs) st1).bind fun ns st1 => if ns.length ≤ 60 then .ok ((srtU ns).map D.int) st1 else .stuck) := q1
        rw [hz] at q1
        exact q1.elim
      | some ns =>
        have q1 : Post (pr X ra) B H1 E _ Q ((Res.of (D.ints xs) st1).bind fun ns st1 => if ns.length ≤ 60 then .ok ((srtU ns).map D.int) st1 else .stuck) := q1
        rw [hz] at q1
        have q1 : Post (pr X ra) B H1 E _ Q (if ns.length ≤ 60 then .ok ((srtU ns).map D.int) st1 else .stuck) := q1
        have ev := ints_reps hz rs
        subst ev
        by_cases hc : ns.length ≤ 60
        · rw [if_pos hc] at q1
          exact ⟨l, ns, rfl, SqL.of hl, hc, fun t ht => q1 (.ref t) _ (Ext.new ht) (w1.new ht) ⟨t, _, rfl, e1.fresh ht, upd_same, int_reps _⟩⟩
        · rw [if_neg hc] at q1
          exact q1.elim
    | _ => exact q1.elim⟩
end
end Ev

namespace Ev
open PySem PySem.Spec PyProof.Rows L2
/-! ### sorted(tuple) -/
def xSortedT : List D → Option (List D)
  | [.tup xs] => if sortable xs = true then some (sortD xs) else none
  | _ => none
section
variable {X : Cx} {Tb : Tbs} {ra : RA Tb}
theorem c_sortedT (hu : X.A.units + 64 < cLine) (hcalm : X.calm = true) : CallF X ra (.builtin "sorted") xSortedT := by
  refine callF_of fun pins s σ B H xs zs vs us Q hb I ru rx e q => ?_
  unfold xSortedT at e
  split at e
  · rename_i xs
    split at e
    · rename_i hso
      cases e
      obtain ⟨v, rfl, l, ws, rfl, hl, rs⟩ := reps1 rx
      obtain ⟨u, rfl, r1⟩ := vals1' ru
      cases r1
      obtain ⟨its, rv, pl, hz⟩ := I.tuple hl
      refine Calls.call_function_entry PyProof.Rows.kind_sorted PyProof.Rows.plain_sorted PyProof.Rows.entry_sorted (PyProof.Rows.args_sorted1 _) ?_
      unfold Builtin.«sorted»
      refine wpAny_bind (m := checkCount "sorted" 1 1 _) (wpAny_pure ?_)
      obtain ⟨o, ho, hcl, nn, hd⟩ := id pl
      refine wpAny_bind (wpAny_collect_seq l (.inr rfl) ho hcl hd (fun h' hk => ?_) (by rw [List.size_toArray, ← rv.length]; exact hz))
      have I1 : Inv X pins σ H { s with heap := h' } := I.kept (t' := s.toks) hk
      have hal : its.length ≤ SZ := by rw [← rv.length, ← sz_eq]; exact hz
      refine wpAny_bind (wpAny_newList ?_ (by rw [sz_eq]; exact hal))
      have hoL : (h'.push (seqObj "list" its.toArray 0)).get? h'.objs.size = some (seqObj "list" its.toArray 0) := Heap.get?_push_size _ rfl
      show wpAny _ _ _ _ _ { s with heap := h'.push (seqObj "list" its.toArray 0) }
      obtain ⟨h1, h2, h3, h4, h5⟩ := sortable_of hso
      have I2 : Inv X pins σ H { s with heap := h'.push (seqObj "list" its.toArray 0) } := I1.kept (t' := s.toks) fun b o e => Heap.get?_push_of_some _ e
      refine wpAny_bind (wpAny_holding (PySem.W.list_sort_data (s := { s with heap := h'.push (seqObj "list" its.toArray 0) }) (R := fun u d => ∃ v, RelV v u ∧ Rep (pr X ra) H B d v) (bs := xs) (enc := D.py) hoL (each_of rs rv fun d v u _ r t => ⟨v, t, r⟩) (each_of rs rv fun d v u m r t => ?_) h2 h3 (by rw [sz_eq]; exact h5) (fun d hd => ?_) fun out ho eo => ?_))
      · obtain ⟨as, r0⟩ := Dp.reads I1 _ _ u (Rep.dp d v (plains_mem h1 m) r) t
        exact ⟨as, PyProof.Rows.Reads.keeps (fun b o e => Heap.get?_push_of_some _ e) r0, fun z => absurd (reads_lt r0 _ z) (Nat.lt_irrefl _)⟩
      · have := h4 d hd
        rw [Around.in1_units]
        omega
      · obtain ⟨wo, r1, r2⟩ := of_each eo
        obtain ⟨c, hc⟩ := PyProof.Rows.sortedHeap_at (vs := its) (out := out.toArray) hoL
        have hb : ∀ b o, h'.get? b = some o → (PyProof.Rows.sortedHeap (h'.push (seqObj "list" its.toArray 0)) h'.objs.size its out.toArray).get? b = some o := fun b u e => by
          have hb : b < h'.objs.size := Heap.lt_size e
          rw [PyProof.Rows.sortedHeap_old (Nat.ne_of_lt hb) (by rw [size_push']; exact Nat.lt_succ_of_lt hb)]
          exact Heap.get?_push_of_some _ e
        refine wpAny_pure ⟨_, rfl, .ref h'.objs.size, upd H h'.objs.size (.lst wo), I1.laid (t' := s.toks) hb (Nat.le_refl _)
          (show ObjOk X.prog X.w _ _ _ (.lst wo) from ⟨by rw [r1.length, List.length_mergeSort, sz_eq]; exact h5, out, c, r2, hc⟩), rfl, q _ wo (I1.hok.fresh (Nat.le_refl _)) r1⟩
    · cases e
  · cases e
end
end Ev

namespace Ev
open PySem PySem.Spec PyProof.Rows L2
/-! ### x += e, ints -/
def sAugN (f : Int → Int → Int) (i : Nat) (me : EM) : SM := fun ρ st => match ρ[i]? with
  | some (some (.sh, .int u)) => (me (er ρ) st).bind fun y st1 => match y with
    | .int w => .ok (.nx, ρ.set i (some (.sh, .int (f u w)))) st1
    | _ => .stuck
  | _ => .stuck
section
variable {X : Cx} {Tb : Tbs} {ra : RA Tb} {E : XK} {pos : Pos}
theorem ds_augN {op : Operator} {f : Int → Int → Int} (hop : PIp X op (ipI f)) {i : Nat} {x : Str} {e : Expr} {me : EM} {pos' : Pos} (hN : X.N.Nodup) (hi : X.N[i]? = some x) (hx : Loc X.env.scope x) (he : DE X ra E e me) (hf : X.fn x = true ∨ X.env.scope.names.lookup x = some .local := by first | exact .inl rfl | exact .inr rfl | assumption) : DSt X ra E (.AugAssign (.Name x pos') op e pos) (sAugN f i me) := by
  refine PS.imp (ps_aug hN hi hx he hop hf) fun N σ H ⟨H0, B, τ, ρ, st, g, q⟩ => ?_
  have q : SPost (pr X ra) H0 B τ E N (match ρ[i]? with
    | some (some (.sh, .int u)) => (me (er ρ) st).bind fun y st1 => match y with
      | .int w => .ok (.nx, ρ.set i (some (.sh, .int (f u w)))) st1
      | _ => .stuck
    | _ => .stuck) := q
  split at q
  · rename_i u hu
    obtain ⟨v, hs, hv⟩ := g.sh i _ hu
    have hv : v = V.int u := hv
    subst hv
    refine ⟨V.int u, hs, B, er ρ, st, g.pre, SPost.ofE g.ext (fun _ _ _ x => x) q fun yd st1 yv H1 hq e1 w1 ry q1 => ?_⟩
    clear hq
    split at q1
    · rename_i w
      have g1 := g.step e1 w1
      refine ⟨u, w, rfl, rep_int ry, q1 _ H1 (g1.setSh (d := .int (f u w)) (v := V.int (f u w)) ?_ rfl)⟩
      unfold notLent
      rw [hu]
    · exact q1.elim
  · exact q.elim
end
end Ev

namespace Ev
open PySem PySem.Spec PyProof.Rows L2
/-! ### l.index(x), plain data -/
def plcD (xs : List D) (y : D) : Option Nat := (D.pys xs).findIdx? fun z => PyData.eqv z y.py
def okPl (s y : D) : Bool := y.plain && SeqAt.shaped y.py && s.plain && SeqAt.shaped s.py
def xIndexL : D → D → Option D
  | .lst xs, y => if okPl (.lst xs) y = true then (plcD xs y).map fun j => .int (j : Nat) else none
  | _, _ => none
theorem find_place {α : Type} {p : α → Bool} : ∀ {l : List α} {j : Nat}, l.findIdx? p = some j → ∃ z, l[j]? = some z ∧ p z = true ∧ ∀ (m : Nat) (z' : α), m < j → l[m]? = some z' → p z' = false := by
  intro l j h
  obtain ⟨hj, h1, h2⟩ := List.findIdx?_eq_some_iff_getElem.mp h
  refine ⟨l[j], List.getElem?_eq_getElem hj, h1, fun m z' hm hz => ?_⟩
  obtain ⟨hl, rfl⟩ := List.getElem?_eq_some_iff.mp hz
  exact Bool.not_eq_true _ ▸ h2 m hm
section
variable {X : Cx} {Tb : Tbs} {ra : RA Tb} {E : XK} {o e : Expr} {ma mb : EM} {apos pos : Pos}
theorem de_indexL (hu : X.A.units + 65 < cLine) (ho : DE X ra E o ma) (he : DE X ra E e mb) (hbase : attributeBase o "index" X.env (eval o X.env) = eval o X.env := by rfl)
    (hfew : ((backTo pos (starEach [e] X.env)).all (fun x => !x.1) && (backToKw pos (keywordEach [] X.env)).all (fun x => x.1.isSome) && decide ([e].length + ([] : List Keyword).length + (if ([] : List Keyword).isEmpty then 0 else 1) < 30)) = true := by rfl)
    (hline : (apos.endLine == pos.line) = true := by rfl) (hs : starEach [e] X.env = (false, eval e X.env) :: starEach [] X.env := by rfl) (hplain : (backTo pos (starEach [] X.env)).any (·.1) = false := by rfl) :
    DE X ra E (.Call (.Attribute o "index" apos) [e] [] pos) (cMeth isLst xIndexL ma mb) :=
  PE.imp (pe_bm PySem.F.plainAttrs_list PySem.F.slot_list_index PySem.F.type_list_index (mt_indexD hu) ho (pa_cons he pa_nil hs) hbase hfew hline hs hplain) fun σ H Q ⟨B, ρ, st, p, q⟩ => ⟨B, ρ, st, p, Post.seq q fun x st1 vx H1 _ e1 w1 rx q1 => by
    have p1 := p.ext e1 w1
    cases x with
    | lst xs =>
      have q1 : EPost (pr X ra) B H1 E Q ((mb ρ st1).bind fun y st2 => Res.of (xIndexL (.lst xs) y) st2) := q1
      have rx0 := rx
      obtain ⟨l, vs, rfl, hl, hb, rs⟩ := rx
      refine ⟨.inl ⟨rfl, vs, SqL.of hl⟩, B, ρ, st1, p1, Post.seq q1 fun y st2 vy H2 _ e2 w2 ry q2 => ?_⟩
      have q2 : EPost (pr X ra) B H2 E Q (Res.of (if okPl (.lst xs) y = true then (plcD xs y).map fun j => .int (j : Nat) else none) st2) := q2
      by_cases hk : okPl (.lst xs) y = true
      · rw [if_pos hk] at q2
        cases hz : plcD xs y with
        | none => rw [hz] at q2; exact q2.elim
        | some j =>
          rw [hz] at q2
          have rx2 := rx0.ext e2 (sub_ra p1.bra)
          unfold okPl at hk
          simp only [Bool.and_eq_true] at hk
          obtain ⟨⟨⟨k1, k2⟩, k3⟩, k4⟩ := hk
          obtain ⟨z, f1, f2, f3⟩ := find_place hz
          exact ⟨l, vy, y.py, D.pys xs, j, z, rfl, rfl, Rep.dp (.lst xs) _ k3 rx2, Rep.dp y vy k1 ry, k4, k2, f1, f2, f3, q2 _ H2 Ext.refl w2 rfl⟩
      · rw [if_neg hk] at q2
        exact q2.elim
    | _ => exact q1.elim⟩
end
/-! ### for x in reversed(l) -/
theorem walks_rev {P : Par} {a : Addr} {xs : List D} : Walks P (Itv P.K a xs.length) [(.lst xs, .ref a)] xs.reverse where
  goes i H B hi t := by
    obtain ⟨a', vs, ea, h, _, r⟩ := t _ (List.mem_cons_self)
    cases ea
    rw [List.length_reverse] at hi
    obtain ⟨v, hv, _⟩ := r.get (List.getElem?_eq_getElem (i := xs.length - 1 - i) (l := xs) (by omega))
    exact ⟨hi, vs, v, SqL.of h, hv⟩
  stops H B t := by
    rw [List.length_reverse]
    exact Nat.le_refl _
  yields i H x H' B d t hd y := by
    obtain ⟨a', vs, ea, h, _, r⟩ := t _ (List.mem_cons_self)
    cases ea
    obtain ⟨e1, e2⟩ := y
    subst e1
    have hi : i < xs.length := by
      have := (List.getElem?_eq_some_iff.mp hd).1
      rwa [List.length_reverse] at this
    rw [List.getElem?_reverse hi] at hd
    obtain ⟨v1, f1, r1⟩ := r.get hd
    have z := e2 vs (SqL.of h)
    rw [f1] at z
    cases z
    exact ⟨.inl rfl, r1⟩
theorem walks_revT {P : Par} {a : Addr} {xs : List D} : Walks P (RT.ItvT P.K a xs.length) [(.tup xs, .ref a)] xs.reverse where
  goes i H B hi t := by
    obtain ⟨a', vs, ea, h, r⟩ := t _ (List.mem_cons_self)
    cases ea
    rw [List.length_reverse] at hi
    obtain ⟨v, hv, _⟩ := r.get (List.getElem?_eq_getElem (i := xs.length - 1 - i) (l := xs) (by omega))
    exact ⟨hi, vs, v, h, hv⟩
  stops H B t := by
    rw [List.length_reverse]
    exact Nat.le_refl _
  yields i H x H' B d t hd y := by
    obtain ⟨a', vs, ea, h, r⟩ := t _ (List.mem_cons_self)
    cases ea
    obtain ⟨e1, e2⟩ := y
    subst e1
    have hi : i < xs.length := by
      have := (List.getElem?_eq_some_iff.mp hd).1
      rwa [List.length_reverse] at this
    rw [List.getElem?_reverse hi] at hd
    obtain ⟨v1, f1, r1⟩ := r.get hd
    have z := e2 vs h
    rw [f1] at z
    cases z
    exact ⟨.inl rfl, r1⟩
def iRevM (m : EM) : AM := fun ρ st => (m ρ st).bind fun d st1 => match d with
  | .lst xs => .ok xs.reverse st1
  | .tup xs => .ok xs.reverse st1
  | _ => .stuck
section
variable {X : Cx} {Tb : Tbs} {ra : RA Tb} {E : XK} {tg e : Expr} {m : EM} {p pos : Pos}
theorem di_rev (hg : Gl X "reversed") (hm : X.mg "reversed" = none) (he : DE X ra E e m) (hs : starEach [e] X.env = (false, eval e X.env) :: starEach [] X.env := by rfl) : DI X ra E tg (.Call (.Name "reversed" p) [e] [] pos) (iRevM m) :=
  PI.imp (RT.pi_revA hg hm he hs) fun σ H R ⟨B, ρ, st, p, q⟩ => ⟨B, ρ, st, p, Post.seq q fun d st1 v H1 hq e1 w1 r q1 => by
    clear hq
    split at q1
    · rename_i xs
      have r0 := r
      obtain ⟨a, us, rfl, ha, na, ra1⟩ := r
      refine ⟨a, us, rfl, .inl ⟨SqL.of ha, ?_⟩⟩
      rw [ra1.length]
      exact q1 _ H1 Ext.refl w1 ⟨_, walks_rev, fun t m => by rw [List.mem_singleton.mp m]; exact r0⟩
    · rename_i xs
      have r0 := r
      obtain ⟨a, us, rfl, ha, ra1⟩ := r
      refine ⟨a, us, rfl, .inr ⟨ha, ?_⟩⟩
      rw [ra1.length]
      exact q1 _ H1 Ext.refl w1 ⟨_, walks_revT, fun t m => by rw [List.mem_singleton.mp m]; exact r0⟩
    · exact q1.elim⟩
end
/-! ### x.remove(k), a list of ints of one's own -/
def remK (xs : List D) : D → Option (List D)
  | .int k => (D.ints xs).bind fun ns => (ns.findIdx? (· == k)).map fun j => xs.eraseIdx j
  | _ => none
def gRemI (i : Nat) (m : EM) : GM := fun ρ st => match ρ[i]? with
  | some (some (.own, .lst xs)) => (m (er ρ) st).bind fun j st1 => (Res.of (remK xs j) st1).bind fun r st1 => .ok (.non, ρ.set i (some (.own, .lst r))) st1
  | _ => .stuck
section
variable {X : Cx} {Tb : Tbs} {ra : RA Tb} {E : XK} {e : Expr} {m : EM} {pos : Pos}
theorem dg_remI {o : Expr} {i : Nat} {apos : Pos} (ho : PE X o (tVar i)) (he : DE X ra E e m) (hbase : attributeBase o "remove" X.env (eval o X.env) = eval o X.env := by rfl)
    (hfew : ((backTo pos (starEach [e] X.env)).all (fun x => !x.1) && (backToKw pos (keywordEach [] X.env)).all (fun x => x.1.isSome) && decide ([e].length + ([] : List Keyword).length + (if ([] : List Keyword).isEmpty then 0 else 1) < 30)) = true := by rfl)
    (hline : (apos.endLine == pos.line) = true := by rfl) (hs : starEach [e] X.env = (false, eval e X.env) :: starEach [] X.env := by rfl) (hplain : (backTo pos (starEach [] X.env)).any (·.1) = false := by rfl) : DG X ra E (.Call (.Attribute o "remove" apos) [e] [] pos) (gRemI i m) := by
  refine PE.imp (pe_bm PySem.F.plainAttrs_list PySem.F.slot_list_remove PySem.F.type_list_remove mt_remove ho (pa_cons he pa_nil hs) hbase hfew hline hs hplain) fun σ H Q ⟨H0, B, τ, ρ, st, g, q⟩ => ?_
  unfold gRemI at q
  split at q
  · rename_i xs hx
    obtain ⟨a, hs, h1, h2, h3⟩ := g.own i .own _ hx (by decide)
    obtain ⟨vs, e1, e2⟩ := top_lst h3
    refine ⟨.ref a, hs, .inl ⟨rfl, vs, SqL.of e1⟩, B, er ρ, st, g.pre, GPost.ofE g.ext (fun _ _ _ x => x) q fun j st1 v H1 hq0 x1 w1 r q1 => ?_⟩
    clear hq0
    have g1 := g.step x1 w1
    cases hp : remK xs j with
    | none => rw [hp] at q1; exact q1.elim
    | some r1 =>
      rw [hp] at q1
      unfold remK at hp
      split at hp
      · rename_i k
        cases hn : D.ints xs with
        | none => rw [hn] at hp; cases hp
        | some ns =>
          rw [hn] at hp
          have hp : (ns.findIdx? (· == k)).map (fun j => xs.eraseIdx j) = some r1 := hp
          cases hj : ns.findIdx? (· == k) with
          | none => rw [hj] at hp; cases hp
          | some j =>
            rw [hj] at hp
            cases hp
            obtain ⟨z, f1, f2, f3⟩ := find_place hj
            have ez : z = k := by simpa using f2
            subst ez
            obtain ⟨a', hs', h1', h2', h3'⟩ := g1.own i .own _ hx (by decide)
            rw [hs] at hs'
            cases hs'
            obtain ⟨vs', e1', e2'⟩ := top_lst h3'
            have ev := ints_rep e2' hn
            have hh : H1 a = some (.lst (ns.map V.int)) := by rw [← ev]; exact e1'
            refine ⟨a, ns, z, j, rfl, by rw [show v = V.int z from r], hh, f1, fun m hm hmz => ?_, ?_⟩
            · have := f3 m z hm hmz
              simp at this
            · rw [← erase_mapI, ← ev]
              exact q1 .non _ (g1.mutL hx hs (reps_eraseIdx j e2')) rfl
      · cases hp
  · exact q.elim
end
theorem g_remI {i : Nat} {m : EM} {ρ : SE} {st st1 : DS} {xs ys : List D} {y : D} (h1 : ρ[i]? = some (some (.own, .lst xs))) (h : m (er ρ) st = .ok y st1) (hr : remK xs y = some ys) : gRemI i m ρ st = .ok (.non, ρ.set i (some (.own, .lst ys))) st1 := by
  unfold gRemI; rw [h1]; show (m (er ρ) st).bind _ = _; rw [h]; show (Res.of (remK xs y) st1).bind _ = _; rw [hr]; rfl
/-! ### a tuple of texts among the module's names -/
def TupK (K : PySem.W.Frag) (a : Addr) (zs : List Str) : Prop := ∃ (o : Obj) (its : Array Value) (n : Nat), K.lookup a = some o ∧ o.cls = .type "tuple" ∧ o.data = .seq its n ∧ its.size ≤ sizeLine ∧ Vals (zs.map V.str) its.toList
theorem reps_strs {P : Par} {H : Hp} {B : Addr → Prop} : ∀ zs : List Str, Reps P H B (zs.map D.str) (zs.map V.str)
  | [] => Reps.nil
  | _ :: zs => Reps.cons rfl (reps_strs zs)
section
variable {X : Cx} {Tb : Tbs} {ra : RA Tb} {E : XK}
theorem de_gtupS {x : Str} {zs : List Str} {pos : Pos} (hg : Gl X x) (hm : ∃ a, X.mg x = some (.ref a) ∧ TupK X.K a zs) (hd : (x == ("__debug__" : Str)) = false := by decide) : DE X ra E (.Name x pos) (cCon (.tup (zs.map D.str))) := by
  obtain ⟨a, h1, h2⟩ := hm
  exact de_gtup hg h1 (fun H B => ⟨a, zs.map V.str, rfl, .inr h2, reps_strs zs⟩) hd
end
theorem tupK3 {K : PySem.W.Frag} {a : Addr} {x y z : Str} {t u v : Tok} {od : Option Addr} {n : Nat} {sl : Array (Option Value)} (h : K.lookup a = some ⟨.type "tuple", od, .seq #[.str x t, .str y u, .str z v] n, sl⟩) : TupK K a [x, y, z] :=
  ⟨_, _, _, h, rfl, rfl, by rw [sizeLine_eq]; show 3 ≤ 16777216; decide, .cons ⟨t, rfl⟩ (.cons ⟨u, rfl⟩ (.cons ⟨v, rfl⟩ .nil))⟩
/-! ### a fresh list, given free behind the statement -/
def frzR (ls : List Nat) : SR → SR
  | .ok (.nx, ρ) st => .ok (.nx, frz ls ρ) st
  | .exc c fs st => .exc c fs st
  | _ => .stuck
def sFrzA (ls : List Nat) (n : SM) : SM := fun ρ st => frzR ls (n ρ st)
section
variable {X : Cx} {Tb : Tbs} {ra : RA Tb} {E : XK} {s : Stmt} {n : SM}
theorem ds_frzA (ls : List Nat) (h : DSt X ra E s n) : DSt X ra E s (sFrzA ls n) := PS.imp h fun N σ H ⟨H0, B, τ, ρ, st, g, q⟩ => ⟨H0, B, τ, ρ, st, g, by
  unfold sFrzA at q
  cases hr : n ρ st with
  | ok r st1 =>
    rw [hr] at q
    obtain ⟨f, ρ'⟩ := r
    cases f with
    | nx => exact fun σ' H' g' => q σ' H' (g'.frz ls)
    | _ => exact q.elim
  | exc c fs st1 => rw [hr] at q; exact q
  | stuck => rw [hr] at q; exact q⟩
end
theorem s_frzA {ls : List Nat} {n : SM} {ρ ρ' : SE} {st st1 : DS} (h : n ρ st = .ok (.nx, ρ') st1) : sFrzA ls n ρ st = .ok (.nx, frz ls ρ') st1 := by unfold sFrzA; rw [h]; rfl
/-! ### a fresh list of what is read, one's own lists and dicts among it -/
def gFr (am : AM) : GM := fun ρ st => (am (er ρ) st).bind fun ds st1 => if D.pures ds = true then .ok (.lst ds, ρ) st1 else .stuck
section
variable {X : Cx} {Tb : Tbs} {ra : RA Tb} {E : XK} {e : Expr} {am : AM}
theorem dg_fr (h : DF X ra E e am) : DG X ra E e (gFr am) :=
  PE.imp h fun σ H Q ⟨H0, B, τ, ρ, st, g, q⟩ => ⟨B, er ρ, st, g.pre, GPost.ofE g.ext (fun _ _ _ x => x) q fun ds st1 v H1 _ e1 w1 ⟨p, vs, ev, hn, h1, r⟩ q1 => by
    split at q1
    · rename_i hc
      refine q1 v H1 (g.step e1 w1) ⟨p, vs, ev, h1, fun z => ?_, Reps.any _ _ hc r⟩
      rcases z with z | ⟨i, k, d, h2, h3, h4⟩
      · exact g.pre.notB hn z
      · obtain ⟨a', h5, _, _, h6⟩ := g.own i k d h2 h3
        rw [h4] at h5
        cases h5
        exact top_some h6 hn
    · exact q1.elim⟩
end
theorem g_fr {am : AM} {ρ : SE} {st st1 : DS} {ds : List D} (h : am (er ρ) st = .ok ds st1) (hp : D.pures ds = true) : gFr am ρ st = .ok (.lst ds, ρ) st1 := by unfold gFr; rw [h]; show (if _ then _ else _) = _; rw [if_pos hp]
end Ev

namespace Ev
open PySem PySem.Spec PyProof.Rows L2
/-! ### dict(list of pairs), keys that are tuples, each once -/
def pairK : List D → Option (List D × List D)
  | [] => some ([], [])
  | .tup [k, v] :: ps => (pairK ps).map fun q => (k :: q.1, v :: q.2)
  | _ => none
def xDictP : List D → Option D
  | [.lst ps] => (pairK ps).bind fun q => if q.1.all D.tkey = true ∧ nodupK q.1 = true ∧ q.1.length ≤ 100000 ∧ q.1.isEmpty = false then some (.dic q.1 q.2) else none
  | _ => none
section
variable {X : Cx} {Tb : Tbs} {ra : RA Tb} {pins : List (Addr × Obj)} {σ : L2.St} {H : Hp} {s : Shared} {B : Addr → Prop}
theorem pairs_at (I : Inv X pins σ H s) : ∀ {ps ks ws : List D} {vs : List V} {its : List Value}, pairK ps = some (ks, ws) → ks.all D.tkey = true → Reps (pr X ra) H B ps vs → Vals vs its →
    ∃ (Ts : List Addr) (kvs : List (V × V)) (qs : List (NestedKey × Addr × Value)), its = Ts.map Value.ref ∧ Ts.length = qs.length ∧ qs.map (·.1) = ks.map nkD ∧ (∀ x ∈ qs, (nestedKind X.prog X.w).is s.heap x.1 x.2.1) ∧
      (∀ (j : Nat) (T : Addr) x, Ts[j]? = some T → qs[j]? = some x → s.heap.IsTuple T #[.ref x.2.1, x.2.2]) ∧ Ents X.w ks kvs (qs.map (entryOfKey (nestedKind X.prog X.w))) ∧ Reps (pr X ra) H B ks (kvs.map fun q => q.1) ∧ Reps (pr X ra) H B ws (kvs.map fun q => q.2)
  | [], ks, ws, vs, its, e, _, r, ru => by
    cases e
    cases (show vs = [] from r)
    cases ru
    exact ⟨[], [], [], rfl, rfl, rfl, fun _ h => (nomatch h), fun _ _ _ h => by simp at h, ⟨rfl, rfl⟩, Reps.nil, Reps.nil⟩
  | p :: ps, ks, ws, vs, its, e, ht, r, ru => by
    unfold pairK at e
    split at e
    · rename_i h; cases h
    · rename_i k v ps' h
      cases h
      cases hp : pairK ps with
      | none => rw [hp] at e; cases e
      | some q =>
        rw [hp] at e
        cases e
        rw [List.all_cons, Bool.and_eq_true] at ht
        obtain ⟨pv, vs', rfl, r1, r2⟩ := Reps.uncons r
        cases ru with
        | @cons _ pu _ us rp rs =>
          obtain ⟨Ts, kvs, qs, h1, h2, h3, h4, h5, h6, h7, h8⟩ := pairs_at I (ks := q.1) (ws := q.2) hp ht.2 r2 rs
          obtain ⟨T, xs, rfl, hq, rx⟩ := r1
          obtain ⟨kx, xs', rfl, rk, rx⟩ := Reps.uncons rx
          obtain ⟨vx, xs'', rfl, rv, rx⟩ := Reps.uncons rx
          cases (show xs'' = [] from rx)
          cases (show pu = Value.ref T from rp)
          obtain ⟨tits, rt, pl, _⟩ := I.tuple hq
          cases rt with
          | @cons _ ku _ _ gk rt =>
            cases rt with
            | @cons _ vu _ _ gv rt =>
              cases rt
              obtain ⟨b, rfl, rfl, hi⟩ := tkey_is I rfl ht.1 rk gk
              obtain ⟨o, ho, hc, n, hd⟩ := pl
              refine ⟨T :: Ts, (.ref b, vx) :: kvs, (nkD k, b, vu) :: qs, by rw [h1]; rfl, by simp [h2], by simp [h3], fun x hx => ?_, fun j T' x hj hx => ?_, ⟨_, _, _, _, _, rfl, rfl, rfl, gv, rfl, h6⟩, Reps.cons rk h7, Reps.cons rv h8⟩
              · rcases List.mem_cons.mp hx with e | e
                · rw [e]; exact hi
                · exact h4 x e
              · cases j with
                | zero =>
                  cases hj
                  cases hx
                  exact ⟨o, ho, hc, n, hd⟩
                | succ j => exact h5 j T' x hj hx
    · cases e
theorem stored_all {qs : List (NestedKey × Addr × Value)} (nd : (qs.map (·.1)).Nodup) : storedAllH [] qs = qs := by
  have key : ∀ (qs acc : List (NestedKey × Addr × Value)), ((acc ++ qs).map (·.1)).Nodup → storedAllH acc qs = acc ++ qs := by
    intro qs
    induction qs with
    | nil => intro acc _; simp [storedAllH]
    | cons q qs ih =>
      intro acc h
      have e : storedH acc q.1 q.2.1 q.2.2 = acc ++ [q] := by
        refine storedH_new ?_ _ _
        unfold atKey
        rw [List.find?_eq_none.mpr, Option.map_none]
        intro x hx hk
        have hk : x.1 = q.1 := by simpa using hk
        rw [List.map_append, List.nodup_append] at h
        exact h.2.2 x.1 (List.mem_map.mpr ⟨x, hx, rfl⟩) q.1 (List.mem_map.mpr ⟨q, List.mem_cons_self, rfl⟩) hk
      show storedAllH (storedH acc q.1 q.2.1 q.2.2) qs = _
      rw [e, ih (acc ++ [q]) (by rw [List.append_assoc]; exact h), List.append_assoc]
      rfl
  have := key qs [] (by simpa using nd)
  simpa using this
theorem c_dictP (hu : X.A.units + 64 < cLine) (hcalm : X.calm = true) : CallD X ra (.type "dict") xDictP := by
  refine ⟨fun vs H Q => ∃ B xs z, (∀ a, isRa (pr X ra) a → B a) ∧ (∀ b, B b → H b ≠ none) ∧ Reps (pr X ra) H B xs vs ∧ xDictP xs = some z ∧ ∀ t H', (∀ a o, H a = some o → H' a = some o) → (∀ a, H' a ≠ none → H a ≠ none ∨ a = t) → H t = none → (∃ o, H' = upd H t o) → Rep (pr X ra) H' B z (.ref t) → Q (.ref t) H', fun pins s σ H vs us Q I ru ⟨B, xs, z, hb, hdom, rx, e, q⟩ => ?_, fun B H st xs z vs Q b d w rs e q => ⟨B, xs, z, sub_ra (P := pr X ra) b, d, rs, e, fun t H' k1 k2 ht hH r => ?_⟩⟩
  · unfold xDictP at e
    split at e
    · rename_i ps
      cases hp : pairK ps with
      | none => rw [hp] at e; cases e
      | some kw =>
        rw [hp] at e
        obtain ⟨ks, ws⟩ := kw
        have e : (if ks.all D.tkey = true ∧ nodupK ks = true ∧ ks.length ≤ 100000 ∧ ks.isEmpty = false then some (D.dic ks ws) else none) = some z := e
        split at e
        · rename_i hc
          cases e
          obtain ⟨c1, c2, c3, c4⟩ := hc
          obtain ⟨v, rfl, l, vs', rfl, hl, hnl, rs⟩ := reps1 rx
          obtain ⟨u, rfl, r1⟩ := vals1' ru
          cases r1
          obtain ⟨its, rv, pl, hz⟩ := I.list (SqL.of hl)
          obtain ⟨Ts, kvs, qs, h1, h2, h3, h4, h5, h6, h7, h8⟩ := pairs_at I hp c1 rs rv
          subst h1
          have lq : qs.length = ks.length := by have := congrArg List.length h3; simpa using this
          have hsz : sizeLine = 16777216 := sz_eq
          have ndq : (qs.map (·.1)).Nodup := by rw [h3]; exact nodupK_iff.mp c2
          obtain ⟨o, n, ho, hcl, hdn, hdat⟩ := pl
          have PI : PairItems s.heap (Ts.map Value.ref).toArray (fun j => Ts.getD j 0) (qs.map fun x => (.ref x.2.1, x.2.2)) := by
            refine ⟨by simp [h2], fun j k v hj => ?_⟩
            rw [List.getElem?_map] at hj
            cases hx : qs[j]? with
            | none => rw [hx] at hj; cases hj
            | some x =>
              rw [hx] at hj
              cases hj
              have hjl : j < Ts.length := by rw [h2]; exact (List.getElem?_eq_some_iff.mp hx).1
              have hT : Ts[j]? = some Ts[j] := List.getElem?_eq_getElem hjl
              refine ⟨?_, .inl ?_⟩
              · simp [hT, List.getD]
              · show s.heap.IsTuple (Ts.getD j 0) _
                rw [show Ts.getD j 0 = Ts[j] by simp [List.getD, hT]]
                exact h5 j Ts[j] x hT hx
          have PA := PairArg.list (prog := X.prog) (w := X.w) l (Ts.map Value.ref).toArray (fun j => Ts.getD j 0) (qs.map fun x => (.ref x.2.1, x.2.2))
          refine call_dict_pairsH (knd := nestedKind X.prog X.w) (ps := qs) PA (I.ok.hd hcalm) (by show X.A.in1.in1.units + 8 < cLine; rw [Around.in1_units, Around.in1_units]; omega) ⟨⟨o, n, ho, hcl, hdn, hdat⟩, PI⟩ ⟨by simp, fun i key v hi => ?_⟩ (fun h' hk x hx => ?_) (by rw [List.length_map, lq, hsz]; omega) fun h' tk dd hk => ?_
          · have hi : (qs.map fun x => (Value.ref x.2.1, x.2.2))[i]? = some (key, v) := hi
            rw [List.getElem?_map] at hi
            cases hx : qs[i]? with
            | none => rw [hx] at hi; cases hi
            | some x =>
              rw [hx] at hi
              cases hi
              exact ⟨x.1, x.2.1, rfl, rfl⟩
          · refine ⟨NestedIs.at (fun a o vs n ha _ => hk a o (Nat.ne_of_lt (Heap.lt_size ha)) (by simp) ha) _ _ (h4 x hx).1, (h4 x hx).2⟩
          · rw [stored_all ndq] at dd
            obtain ⟨o', es', ep', ho', hcc, hdat', he', _, _⟩ := dd
            have hraw : h'.DictRaw s.heap.objs.size es' ep' := ⟨o', ho', hcc, hdat'⟩
            have hn := I.hok.fresh (Nat.le_refl s.heap.objs.size)
            have I1 := I.laid (a := s.heap.objs.size) (o := .ext fun h => h.DictRaw s.heap.objs.size es' ep') (h' := h') (t' := tk) (fun b u e => hk b u (by simp) e) (Nat.le_refl _) ⟨hraw, ⟨_, ho'⟩, fun h1 h2 z k => z.at k⟩
            have kne : ks ≠ [] := fun z => by rw [z] at c4; cases c4
            have hsz' : es'.size ≤ sizeLine := by
              have := congrArg List.length he'
              rw [Array.length_toList, List.length_map, lq] at this
              omega
            have DA : DicAt X.w s.heap.objs.size ks kvs (.ext fun h => h.DictRaw s.heap.objs.size es' ep') := .inr ⟨kne, es', ep', rfl, beq_eq_false_iff_ne.mpr (Ne.symm (Nat.ne_of_lt I.big)), by rw [he']; exact h6, .inr c1, nodupK_iff.mp c2, hsz'⟩
            have eN : Ext (isRa (pr X ra)) H (upd H s.heap.objs.size (.ext fun h => h.DictRaw s.heap.objs.size es' ep')) := Ext.new hn
            have RD : Rep (pr X ra) (upd H s.heap.objs.size (.ext fun h => h.DictRaw s.heap.objs.size es' ep')) B (.dic ks ws) (.ref s.heap.objs.size) := ⟨s.heap.objs.size, _, kvs, rfl, upd_same, DA, fun z => hdom _ z hn, h7.ext eN hb, h8.ext eN hb⟩
            refine ⟨.ref s.heap.objs.size, _, I1, rfl, q s.heap.objs.size _ (fun a o ha => ?_) (fun a ha => ?_) hn ⟨_, rfl⟩ RD⟩
            · rw [upd_ne (fun z => by rw [z, hn] at ha; cases ha)]; exact ha
            · by_cases z : a = s.heap.objs.size
              · exact .inr z
              · rw [upd_ne z] at ha; exact .inl ha
        · cases e
    · cases e
  · obtain ⟨o, rfl⟩ := hH
    exact q _ _ (Ext.new ht) (w.new ht) r
end
end Ev

namespace Ev
open PySem PySem.Spec PyProof.Rows L2
/-! ### enumerate(zip(a, b)): the zip's tuple stays in the enumerate's, so the zip never knows it free -/
abbrev IsZipG (h : Heap) (z TI TO : Addr) (f0 f1 : Value) : Prop :=
  h.get? z = some { cls := .type "zip", dict := none, data := .fields #[f0, f1, .bool false, .ref TI, .ref TO], slots := #[] }
def OwnMay (f0 f1 : Value) : Prop := f0 = .none ∨ ∃ (T : Addr) (f : Bool), f0 = rawInt T ∧ f1 = .bool f
def ZipMay (h : Heap) (z TI TO : Addr) : Prop := ∃ f0 f1, IsZipG h z TI TO f0 f1 ∧ OwnMay f0 f1
section
variable {prog : Program} {w : World} {A : Around} {E : Value → Shared → Prop} {s : Shared}
variable {z TI TO i1 i2 : Addr} {fp1 fp2 : List Addr} {n1 n2 i : Nat} {P1 P2 : Nat → Value → Prop} {St1 St2 : Nat → Heap → Prop} {a1 a2 : Value}
theorem alive_any {a : Addr} {Q : Option Obj → Shared → Prop} (h : Q (s.heap.get? a) s) : wpAny (model prog w) A (loadIfAlive a) Q E s := fun _ _ _ => h
theorem zip_isFree {f0 f1 : Value} {Q : Bool → Shared → Prop} (hz : IsZipG s.heap z TI TO f0 f1) (hf : OwnMay f0 f1) (h1 : Q true s)
    (h2 : ∀ (T : Addr) h', IsZipG h' z TI TO (rawInt T) (.bool true) → Heap.SameBut z s.heap h' → Q false { s with heap := h' }) : wpAny (model prog w) A (Builtin.SmallTypes.ownedTupleIsFree (.ref z)) Q E s := by
  unfold Builtin.SmallTypes.ownedTupleIsFree
  rcases hf with rfl | ⟨T, f, rfl, rfl⟩
  · exact wpAny_bind (wpAny_field hz rfl (x := .none) rfl (wpAny_pure h1))
  · refine wpAny_bind (wpAny_field hz rfl (x := rawInt T) rfl ?_)
    show wpAny _ _ (loadIfAlive ((T : Int).toNat) >>= _) _ _ _
    rw [Int.toNat_natCast]
    refine wpAny_bind (alive_any ?_)
    cases hT : s.heap.get? T with
    | none =>
      simp only [Option.isNone_none, if_true]
      exact wpAny_pure h1
    | some o =>
      simp only [Option.isNone_some, Bool.false_eq_true, if_false]
      refine wpAny_bind (wpAny_field hz rfl (x := .bool f) rfl ?_)
      cases f with
      | true =>
        rw [if_neg (show ¬ ((Value.bool true != Value.bool true) = true) from Bool.false_ne_true)]
        exact wpAny_pure (h2 T s.heap hz (Heap.SameBut.refl _ _))
      | false =>
        rw [if_pos (show (Value.bool false != Value.bool true) = true from rfl)]
        exact wpAny_bind (wpAny_setField_rec hz (by simp) fun h₁ hz₁ hs₁ => wpAny_pure (h2 T h₁ hz₁ hs₁))
theorem zipA_next_item {Q : Value → Shared → Prop} (S : ZipSep2 z TI TO i1 i2 fp1 fp2) (D1 : Draws prog w A i1 fp1 n1 P1 St1) (D2 : Draws prog w A i2 fp2 n2 P2 St2)
    (hz : ZipMay s.heap z TI TO) (hTI : IsTupOf2 s.heap TI (.ref i1) (.ref i2)) (hTO : IsTupOf2 s.heap TO a1 a2) (st1 : St1 i s.heap) (st2 : St2 i s.heap) (hlt1 : i < n1) (hlt2 : i < n2)
    (hQ : ∀ x1 x2 h' tk, P1 i x1 → P2 i x2 → ZipMay h' z TI TO → (∃ a1 a2, IsTupOf2 h' TO a1 a2) → St1 (i + 1) h' → St2 (i + 1) h' → IsTupOf2 h' s.heap.objs.size x1 x2 → h'.objs.size = s.heap.objs.size + 1 →
      (∀ c o, c ≠ z → c ≠ TO → c ≠ i1 → c ≠ i2 → s.heap.get? c = some o → h'.get? c = some o) → Q (.ref s.heap.objs.size) { s with heap := h', toks := tk }) :
    wpAny (model prog w) A (Builtin.«zip.__next__» ⟨[.ref z], []⟩) (fun fin s' => ∃ v, fin = .done (.ret v) ∧ Q v s') E s := by
  obtain ⟨f0, f1, hz, hf⟩ := hz
  obtain ⟨hp, g, d, tk0, os⟩ := s
  show wpAny _ _ (field (.ref z) 2 >>= _) _ _ _
  refine wpAny_bind (wpAny_field hz rfl (x := .bool false) rfl ?_)
  show wpAny _ _ (field (.ref z) 3 >>= _) _ _ _
  refine wpAny_bind (wpAny_field hz rfl (x := .ref TI) rfl ?_)
  refine wpAny_bind (wpAny_seqItems hTI rfl ?_)
  show wpAny _ _ (Builtin.SmallTypes.ownedTupleIsFree (.ref z) >>= _) _ _ _
  refine wpAny_bind (zip_isFree hz hf ?_ fun T g0 hz0 hs0 => ?_)
  · simp only [if_true]
    refine wpAny_bind (wpAny_rule ?_)
    refine wpAny_bind (wpAny_field hz rfl (x := .ref TO) rfl ?_)
    refine wpAny_bind (wpAny_setField_rec hz (by simp) fun g0 hz0 hs0 => ?_)
    replace hz0 : IsZipG g0 z TI TO .ellipsis f1 := hz0
    replace hs0 : Heap.SameBut z hp g0 := hs0
    refine wpAny_bind ?_
    simp only [List.zipIdx_cons, List.zipIdx_nil, List.forIn_cons, List.forIn_nil]
    refine wpAny_bind (wpAny_bind (wpAny_onRaise ?_))
    show wpAny _ _ (Builtin.SmallTypes.nextOf (.ref i1) >>= _) _ _ ⟨g0, g, d, tk0, os⟩
    refine wpAny_bind (D1.item i _ _ _ hlt1 (D1.over st1 hs0 S.zf1) fun x1 p1 tk1 hx1 sn1 hp1 => wpAny_pure ?_)
    replace hp1 : Heap.SameBut i1 g0 p1 := hp1
    have hU1 : IsTupOf2 p1 TO a1 a2 := hp1.extBut _ _ S.Ti1 (hs0.extBut _ _ S.TOz hTO)
    refine wpAny_bind (wpAny_seqItems (s := ⟨p1, g, d, tk1, os⟩) hU1 rfl ?_)
    refine wpAny_bind (updateSeq_IsTupOf2 (s := ⟨p1, g, d, tk1, os⟩) hU1 fun g1 hT1 hs1 => ?_)
    replace hT1 : IsTupOf2 g1 TO x1 a2 := hT1
    replace hs1 : Heap.SameBut TO p1 g1 := hs1
    refine wpAny_bind (wpAny_letGo (wpAny_pure ?_))
    refine wpAny_bind (wpAny_bind (wpAny_onRaise ?_))
    show wpAny _ _ (Builtin.SmallTypes.nextOf (.ref i2) >>= _) _ _ ⟨g1, g, d, tk1, os⟩
    refine wpAny_bind (D2.item i _ _ _ hlt2 (D2.over (D2.over (D2.over st2 hs0 S.zf2) hp1 S.sep1_2) hs1 S.Tf2) fun x2 p2 tk2 hx2 sn2 hp2 => wpAny_pure ?_)
    replace hp2 : Heap.SameBut i2 g1 p2 := hp2
    have hU2 : IsTupOf2 p2 TO x1 a2 := hp2.extBut _ _ S.Ti2 hT1
    refine wpAny_bind (wpAny_seqItems (s := ⟨p2, g, d, tk2, os⟩) hU2 rfl ?_)
    refine wpAny_bind (updateSeq_IsTupOf2 (s := ⟨p2, g, d, tk2, os⟩) hU2 fun g2 hT2 hs2 => ?_)
    replace hT2 : IsTupOf2 g2 TO x1 x2 := hT2
    replace hs2 : Heap.SameBut TO p2 g2 := hs2
    refine wpAny_bind (wpAny_letGo (wpAny_pure (wpAny_pure ?_)))
    refine wpAny_bind (wpAny_seqItems (s := ⟨g2, g, d, tk2, os⟩) hT2 rfl ?_)
    refine wpAny_bind (wpAny_newTuple ?_)
    have hsz : g2.objs.size = hp.objs.size := by rw [hs2.1, hp2.1, hs1.1, hp1.1, hs0.1]
    have hzz : IsZipG g2 z TI TO .ellipsis f1 := (hs2.extBut _ _ S.TOz.symm (hp2.extBut _ _ S.zi2 (hs1.extBut _ _ S.TOz.symm (hp1.extBut _ _ S.zi1 hz0))))
    have hkk : ∀ c o, c ≠ z → c ≠ TO → c ≠ i1 → c ≠ i2 → hp.get? c = some o → g2.get? c = some o := fun c o cz cT c1 c2 e =>
      (hs2.extBut _ _ cT (hp2.extBut _ _ c2 (hs1.extBut _ _ cT (hp1.extBut _ _ c1 (hs0.extBut _ _ cz e)))))
    have hj1 : St1 (i + 1) g2 := (D1.over (D1.over (D1.over sn1 hs1 S.Tf1) hp2 S.sep2_1) hs2 S.Tf1)
    have hj2 : St2 (i + 1) g2 := (D2.over sn2 hs2 S.Tf2)
    have hzlt : z < g2.objs.size := Heap.lt_size hzz
    show wpAny _ _ (Builtin.SmallTypes.ownedTupleHandOut (.ref z) (.ref g2.objs.size) >>= _) _ _ ⟨g2.push { cls := .type "tuple", data := .seq #[x1, x2] }, g, d, tk2, os⟩
    refine wpAny_bind ?_
    unfold Builtin.SmallTypes.ownedTupleHandOut
    have hz₆ : IsZipG (g2.push { cls := .type "tuple", data := .seq #[x1, x2] }) z TI TO .ellipsis f1 := Heap.get?_push_of_some _ hzz
    refine wpAny_bind (wpAny_setField_rec hz₆ (by simp) fun h₇ hz₇ hs₇ => ?_)
    replace hz₇ : IsZipG h₇ z TI TO (rawInt g2.objs.size) f1 := hz₇
    refine wpAny_setField_rec hz₇ (by simp) fun h₈ hz₈ hs₈ => ?_
    replace hz₈ : IsZipG h₈ z TI TO (rawInt g2.objs.size) (.bool false) := hz₈
    replace hs₇ : Heap.SameBut z (g2.push { cls := .type "tuple", data := .seq #[x1, x2] }) h₇ := hs₇
    replace hs₈ : Heap.SameBut z h₇ h₈ := hs₈
    have up : ∀ c o, c ≠ z → g2.get? c = some o → h₈.get? c = some o := fun c o c1 e => hs₈.extBut _ _ c1 (hs₇.extBut _ _ c1 (Heap.get?_push_of_some _ e))
    have hT₈ : IsTupOf2 h₈ g2.objs.size x1 x2 := hs₈.extBut _ _ (Nat.ne_of_gt hzlt) (hs₇.extBut _ _ (Nat.ne_of_gt hzlt) (Heap.get?_push_size _ rfl))
    have hz8 : h₈.objs.size = g2.objs.size + 1 := by rw [hs₈.1, hs₇.1, Heap.size_push]
    rw [hsz] at hT₈ hz8
    refine wpAny_pure ⟨_, rfl, ?_⟩
    show Q (.ref g2.objs.size) ⟨h₈, g, d, tk2, os⟩
    have hzm : ZipMay h₈ z TI TO := ⟨_, _, hz₈, .inr ⟨_, _, rfl, rfl⟩⟩
    rw [hsz]
    exact hQ x1 x2 h₈ tk2 hx1 hx2 hzm ⟨_, _, up _ _ S.TOz hT2⟩ (D1.frame _ _ _ hj1 fun b hb o e => up b o (fun q => S.zf1 (q ▸ hb)) e) (D2.frame _ _ _ hj2 fun b hb o e => up b o (fun q => S.zf2 (q ▸ hb)) e) hT₈ hz8 fun c o cz cT c1 c2 e => up c o cz (hkk c o cz cT c1 c2 e)
  · replace hs0 : Heap.SameBut z hp g0 := hs0
    simp only [Bool.false_eq_true, if_false]
    refine wpAny_bind ?_
    rw [← Array.forIn_toList]
    simp only [List.forIn_cons, List.forIn_nil]
    refine wpAny_bind (wpAny_bind (wpAny_holding ?_))
    show wpAny _ _ (Builtin.SmallTypes.nextOf (.ref i1) >>= _) _ _ ⟨g0, g, d, tk0, os⟩
    refine wpAny_bind (D1.item i _ _ _ hlt1 (D1.over st1 hs0 S.zf1) fun x1 p1 tk1 hx1 sn1 hp1 => wpAny_pure ?_)
    replace hp1 : Heap.SameBut i1 g0 p1 := hp1
    refine wpAny_pure ?_
    refine wpAny_bind (wpAny_bind (wpAny_holding ?_))
    show wpAny _ _ (Builtin.SmallTypes.nextOf (.ref i2) >>= _) _ _ ⟨p1, g, d, tk1, os⟩
    refine wpAny_bind (D2.item i _ _ _ hlt2 (D2.over (D2.over st2 hs0 S.zf2) hp1 S.sep1_2) fun x2 p2 tk2 hx2 sn2 hp2 => wpAny_pure ?_)
    replace hp2 : Heap.SameBut i2 p1 p2 := hp2
    refine wpAny_pure (wpAny_pure ?_)
    show wpAny _ _ (newTuple [x1, x2] >>= _) _ _ _
    refine wpAny_bind (wpAny_newTuple ?_)
    have hsz : p2.objs.size = hp.objs.size := by rw [hp2.1, hp1.1, hs0.1]
    have hzz : IsZipG p2 z TI TO (rawInt T) (.bool true) := hp2.extBut _ _ S.zi2 (hp1.extBut _ _ S.zi1 hz0)
    have hkk : ∀ c o, c ≠ z → c ≠ i1 → c ≠ i2 → hp.get? c = some o → p2.get? c = some o := fun c o cz c1 c2 e => hp2.extBut _ _ c2 (hp1.extBut _ _ c1 (hs0.extBut _ _ cz e))
    have hj1 : St1 (i + 1) p2 := D1.over sn1 hp2 S.sep2_1
    refine wpAny_pure ⟨_, rfl, ?_⟩
    show Q (.ref p2.objs.size) ⟨p2.push { cls := .type "tuple", data := .seq #[x1, x2] }, g, d, tk2, os⟩
    have hP : IsTupOf2 (p2.push { cls := .type "tuple", data := .seq #[x1, x2] }) p2.objs.size x1 x2 := Heap.get?_push_size _ rfl
    have hz4 : (p2.push { cls := .type "tuple", data := .seq #[x1, x2] }).objs.size = p2.objs.size + 1 := Heap.size_push ..
    have hTO2 : IsTupOf2 p2 TO a1 a2 := hkk TO _ S.TOz S.Ti1 S.Ti2 hTO
    rw [hsz] at hP hz4 ⊢
    exact hQ x1 x2 _ tk2 hx1 hx2 ⟨_, _, Heap.get?_push_of_some _ hzz, .inr ⟨_, _, rfl, rfl⟩⟩ ⟨_, _, Heap.get?_push_of_some _ hTO2⟩ (D1.frame _ _ _ hj1 fun b hb o e => Heap.get?_push_of_some _ e) (D2.frame _ _ _ sn2 fun b hb o e => Heap.get?_push_of_some _ e) hP hz4 fun c o cz cT c1 c2 e => Heap.get?_push_of_some _ (hkk c o cz c1 c2 e)
theorem zipA_next_end {Q : Fin → Shared → Prop} (S : ZipSep2 z TI TO i1 i2 fp1 fp2) (D1 : Draws prog w A i1 fp1 n1 P1 St1) (D2 : Draws prog w A i2 fp2 n2 P2 St2)
    (hz : ZipMay s.heap z TI TO) (hTI : IsTupOf2 s.heap TI (.ref i1) (.ref i2)) (hTO : IsTupOf2 s.heap TO a1 a2) (st1 : St1 i s.heap) (st2 : St2 i s.heap) (hle1 : i ≤ n1) (hle2 : i ≤ n2) (hend : i = n1 ∨ i = n2)
    (hE : ∀ h' tk e, (∀ c o, c ≠ z → c ≠ TO → c ≠ i1 → c ≠ i2 → s.heap.get? c = some o → h'.get? c = some o) → (∃ o, h'.get? e = some o ∧ o.cls = .type "StopIteration") → E (.ref e) { s with heap := h', toks := tk }) :
    wpAny (model prog w) A (Builtin.«zip.__next__» ⟨[.ref z], []⟩) Q E s := by
  obtain ⟨f0, f1, hz, hf⟩ := hz
  obtain ⟨hp, g, d, tk0, os⟩ := s
  show wpAny _ _ (field (.ref z) 2 >>= _) _ _ _
  refine wpAny_bind (wpAny_field hz rfl (x := .bool false) rfl ?_)
  show wpAny _ _ (field (.ref z) 3 >>= _) _ _ _
  refine wpAny_bind (wpAny_field hz rfl (x := .ref TI) rfl ?_)
  refine wpAny_bind (wpAny_seqItems hTI rfl ?_)
  show wpAny _ _ (Builtin.SmallTypes.ownedTupleIsFree (.ref z) >>= _) _ _ _
  refine wpAny_bind (zip_isFree hz hf ?_ fun T g0 hz0 hs0 => ?_)
  · simp only [if_true]
    refine wpAny_bind (wpAny_rule ?_)
    refine wpAny_bind (wpAny_field hz rfl (x := .ref TO) rfl ?_)
    refine wpAny_bind (wpAny_setField_rec hz (by simp) fun g0 hz0 hs0 => ?_)
    replace hz0 : IsZipG g0 z TI TO .ellipsis f1 := hz0
    replace hs0 : Heap.SameBut z hp g0 := hs0
    refine wpAny_bind ?_
    simp only [List.zipIdx_cons, List.zipIdx_nil, List.forIn_cons, List.forIn_nil]
    refine wpAny_bind (wpAny_bind (wpAny_onRaise ?_))
    show wpAny _ _ (Builtin.SmallTypes.nextOf (.ref i1) >>= _) _ _ ⟨g0, g, d, tk0, os⟩
    by_cases hlt1 : i < n1
    · refine wpAny_bind (D1.item i _ _ _ hlt1 (D1.over st1 hs0 S.zf1) fun x1 p1 tk1 hx1 sn1 hp1 => wpAny_pure ?_)
      replace hp1 : Heap.SameBut i1 g0 p1 := hp1
      have hU1 : IsTupOf2 p1 TO a1 a2 := hp1.extBut _ _ S.Ti1 (hs0.extBut _ _ S.TOz hTO)
      refine wpAny_bind (wpAny_seqItems (s := ⟨p1, g, d, tk1, os⟩) hU1 rfl ?_)
      refine wpAny_bind (updateSeq_IsTupOf2 (s := ⟨p1, g, d, tk1, os⟩) hU1 fun g1 hT1 hs1 => ?_)
      replace hT1 : IsTupOf2 g1 TO x1 a2 := hT1
      replace hs1 : Heap.SameBut TO p1 g1 := hs1
      refine wpAny_bind (wpAny_letGo (wpAny_pure ?_))
      have hi2 : i = n2 := by omega
      refine wpAny_bind (wpAny_bind (wpAny_onRaise ?_))
      show wpAny _ _ (Builtin.SmallTypes.nextOf (.ref i2) >>= _) _ _ ⟨g1, g, d, tk1, os⟩
      refine wpAny_bind (D2.done ⟨g1, g, d, tk1, os⟩ _ _ (by rw [← hi2]; exact (D2.over (D2.over (D2.over st2 hs0 S.zf2) hp1 S.sep1_2) hs1 S.Tf2)) fun q e hq he => ?_)
      replace hq : Heap.ExtBut i2 g1 q := hq
      obtain ⟨oe, hoe, hce⟩ := he
      replace hoe : q.get? e = some oe := hoe
      have hzq : IsZipG q z TI TO .ellipsis f1 := hq _ _ S.zi2 (hs1.extBut _ _ S.TOz.symm (hp1.extBut _ _ S.zi1 hz0))
      have hez : e ≠ z := fun x => by subst x; rw [hzq] at hoe; cases hoe; simp at hce
      refine wpAny_setField_rec (s := ⟨q, g, d, tk1, os⟩) hzq (by simp) fun q' _ hq' => ?_
      replace hq' : Heap.SameBut z q q' := hq'
      exact hE q' tk1 e (fun c o cz cT c1 c2 x => hq'.extBut _ _ cz (hq _ _ c2 (hs1.extBut _ _ cT (hp1.extBut _ _ c1 (hs0.extBut _ _ cz x))))) ⟨oe, hq'.extBut _ _ hez hoe, hce⟩
    · have hi1 : i = n1 := by omega
      refine wpAny_bind (D1.done ⟨g0, g, d, tk0, os⟩ _ _ (by rw [← hi1]; exact (D1.over st1 hs0 S.zf1)) fun q e hq he => ?_)
      replace hq : Heap.ExtBut i1 g0 q := hq
      obtain ⟨oe, hoe, hce⟩ := he
      replace hoe : q.get? e = some oe := hoe
      have hzq : IsZipG q z TI TO .ellipsis f1 := hq _ _ S.zi1 hz0
      have hez : e ≠ z := fun x => by subst x; rw [hzq] at hoe; cases hoe; simp at hce
      refine wpAny_setField_rec (s := ⟨q, g, d, tk0, os⟩) hzq (by simp) fun q' _ hq' => ?_
      replace hq' : Heap.SameBut z q q' := hq'
      exact hE q' tk0 e (fun c o cz cT c1 c2 x => hq'.extBut _ _ cz (hq _ _ c1 (hs0.extBut _ _ cz x))) ⟨oe, hq'.extBut _ _ hez hoe, hce⟩
  · replace hs0 : Heap.SameBut z hp g0 := hs0
    simp only [Bool.false_eq_true, if_false]
    refine wpAny_bind ?_
    rw [← Array.forIn_toList]
    simp only [List.forIn_cons, List.forIn_nil]
    refine wpAny_bind (wpAny_bind (wpAny_holding ?_))
    show wpAny _ _ (Builtin.SmallTypes.nextOf (.ref i1) >>= _) _ _ ⟨g0, g, d, tk0, os⟩
    by_cases hlt1 : i < n1
    · refine wpAny_bind (D1.item i _ _ _ hlt1 (D1.over st1 hs0 S.zf1) fun x1 p1 tk1 hx1 sn1 hp1 => wpAny_pure ?_)
      replace hp1 : Heap.SameBut i1 g0 p1 := hp1
      have hi2 : i = n2 := by omega
      refine wpAny_pure ?_
      refine wpAny_bind (wpAny_bind (wpAny_holding ?_))
      show wpAny _ _ (Builtin.SmallTypes.nextOf (.ref i2) >>= _) _ _ ⟨p1, g, d, tk1, os⟩
      refine wpAny_bind (D2.done ⟨p1, g, d, tk1, os⟩ _ _ (by rw [← hi2]; exact (D2.over (D2.over st2 hs0 S.zf2) hp1 S.sep1_2)) fun q e hq he => ?_)
      exact hE q tk1 e (fun c o cz cT c1 c2 x => hq _ _ c2 (hp1.extBut _ _ c1 (hs0.extBut _ _ cz x))) he
    · have hi1 : i = n1 := by omega
      refine wpAny_bind (D1.done ⟨g0, g, d, tk0, os⟩ _ _ (by rw [← hi1]; exact (D1.over st1 hs0 S.zf1)) fun q e hq he => ?_)
      exact hE q tk0 e (fun c o cz cT c1 c2 x => hq _ _ c1 (hs0.extBut _ _ cz x)) he
theorem zipA_nextOf_item {Q : Value → Shared → Prop} (S : ZipSep2 z TI TO i1 i2 fp1 fp2) (D1 : Draws prog w A.in1 i1 fp1 n1 P1 St1) (D2 : Draws prog w A.in1 i2 fp2 n2 P2 St2)
    (hz : ZipMay s.heap z TI TO) (hTI : IsTupOf2 s.heap TI (.ref i1) (.ref i2)) (hTO : IsTupOf2 s.heap TO a1 a2) (st1 : St1 i s.heap) (st2 : St2 i s.heap) (hlt1 : i < n1) (hlt2 : i < n2)
    (hQ : ∀ x1 x2 h' tk, P1 i x1 → P2 i x2 → ZipMay h' z TI TO → (∃ a1 a2, IsTupOf2 h' TO a1 a2) → St1 (i + 1) h' → St2 (i + 1) h' → IsTupOf2 h' s.heap.objs.size x1 x2 → h'.objs.size = s.heap.objs.size + 1 →
      (∀ c o, c ≠ z → c ≠ TO → c ≠ i1 → c ≠ i2 → s.heap.get? c = some o → h'.get? c = some o) → Q (.ref s.heap.objs.size) { s with heap := h', toks := tk }) :
    wpAny (model prog w) A (Builtin.SmallTypes.nextOf (.ref z)) Q E s := by
  have hT : s.TypeIs (.ref z) "zip" := by obtain ⟨f0, f1, hz, _⟩ := hz; exact ⟨_, hz, rfl⟩
  unfold Builtin.SmallTypes.nextOf
  exact wpAny_bind (wpAny_callSpecial?_slot (name := Str.ofString "__next__") hT F.slot_zip_next
    (wpAny_call_entry F.slot_zip_next hT F.entry_zip_next
      (zipA_next_item S D1 D2 hz hTI hTO st1 st2 hlt1 hlt2 fun x1 x2 h' tk y1 y2 b1 b2 d1 d2 b5 b6 b7 => wpAny_pure (hQ x1 x2 h' tk y1 y2 b1 b2 d1 d2 b5 b6 b7)) (F.args_zip_next_1 _)))
theorem zipA_nextOf_end {Q : Value → Shared → Prop} (S : ZipSep2 z TI TO i1 i2 fp1 fp2) (D1 : Draws prog w A.in1 i1 fp1 n1 P1 St1) (D2 : Draws prog w A.in1 i2 fp2 n2 P2 St2)
    (hz : ZipMay s.heap z TI TO) (hTI : IsTupOf2 s.heap TI (.ref i1) (.ref i2)) (hTO : IsTupOf2 s.heap TO a1 a2) (st1 : St1 i s.heap) (st2 : St2 i s.heap) (hle1 : i ≤ n1) (hle2 : i ≤ n2) (hend : i = n1 ∨ i = n2)
    (hE : ∀ h' tk e, (∀ c o, c ≠ z → c ≠ TO → c ≠ i1 → c ≠ i2 → s.heap.get? c = some o → h'.get? c = some o) → (∃ o, h'.get? e = some o ∧ o.cls = .type "StopIteration") → E (.ref e) { s with heap := h', toks := tk }) :
    wpAny (model prog w) A (Builtin.SmallTypes.nextOf (.ref z)) Q E s := by
  have hT : s.TypeIs (.ref z) "zip" := by obtain ⟨f0, f1, hz, _⟩ := hz; exact ⟨_, hz, rfl⟩
  unfold Builtin.SmallTypes.nextOf
  exact wpAny_bind (wpAny_callSpecial?_slot (name := Str.ofString "__next__") hT F.slot_zip_next
    (wpAny_call_entry F.slot_zip_next hT F.entry_zip_next (zipA_next_end S D1 D2 hz hTI hTO st1 st2 hle1 hle2 hend hE) (F.args_zip_next_1 _)))
theorem enumZ_next_item {e : Addr} {c : Int} {old : Value} {Q : Value → Shared → Prop} (S : ZipSep2 z TI TO i1 i2 fp1 fp2) (D1 : Draws prog w A.in1 i1 fp1 n1 P1 St1) (D2 : Draws prog w A.in1 i2 fp2 n2 P2 St2)
    (he : IsEnum s.heap e z c old) (hz : ZipMay s.heap z TI TO) (hTI : IsTupOf2 s.heap TI (.ref i1) (.ref i2)) (hTO : IsTupOf2 s.heap TO a1 a2) (st1 : St1 i s.heap) (st2 : St2 i s.heap) (hlt1 : i < n1) (hlt2 : i < n2)
    (ez : e ≠ z) (eT : e ≠ TO) (e1 : e ≠ i1) (e2 : e ≠ i2) (ef1 : e ∉ fp1) (ef2 : e ∉ fp2)
    (hQ : ∀ x1 x2 h1 tk1 h' tk, P1 i x1 → P2 i x2 → IsTupOf2 h1 s.heap.objs.size x1 x2 → h1.objs.size = s.heap.objs.size + 1 → (∀ c o, c ≠ z → c ≠ TO → c ≠ i1 → c ≠ i2 → s.heap.get? c = some o → h1.get? c = some o) →
      IsEnumOut h' e z (c + 1) (.ref s.heap.objs.size) h1.objs.size → ZipMay h' z TI TO → (∃ a1 a2, IsTupOf2 h' TO a1 a2) → St1 (i + 1) h' → St2 (i + 1) h' →
      h'.get? h1.objs.size = some { cls := .type "tuple", data := .seq #[.int c tk1, .ref s.heap.objs.size] } → (∀ b o, b ≠ e → h1.get? b = some o → h'.get? b = some o) → Q (.ref h1.objs.size) { s with heap := h', toks := tk }) :
    wpAny (model prog w) A (Builtin.«enumerate.__next__» ⟨[.ref e], []⟩) (fun fin s' => ∃ v, fin = .done (.ret v) ∧ Q v s') E s := by
  obtain ⟨hp, g, d, tk₀, os⟩ := s
  show wpAny _ _ (field (.ref e) 2 >>= _) _ _ _
  refine wpAny_bind (wpAny_field he rfl (x := .ref z) rfl ?_)
  refine wpAny_bind (zipA_nextOf_item S D1 D2 hz hTI hTO st1 st2 hlt1 hlt2 fun x1 x2 h₁ tk y1 y2 b1 b2 d1 d2 b5 b6 b7 => ?_)
  obtain ⟨a1', a2', b2⟩ := b2
  replace b5 : IsTupOf2 h₁ hp.objs.size x1 x2 := b5
  replace b6 : h₁.objs.size = hp.objs.size + 1 := b6
  replace b7 : ∀ c o, c ≠ z → c ≠ TO → c ≠ i1 → c ≠ i2 → hp.get? c = some o → h₁.get? c = some o := b7
  have he₁ : IsEnum h₁ e z c old := b7 e _ ez eT e1 e2 he
  show wpAny _ _ (field (.ref e) 3 >>= _) _ _ ⟨h₁, g, d, tk, os⟩
  refine wpAny_bind (wpAny_field he₁ rfl (x := rawInt c) rfl ?_)
  show wpAny _ _ (field (.ref e) 4 >>= _) _ _ ⟨h₁, g, d, tk, os⟩
  refine wpAny_bind (wpAny_field he₁ rfl (x := .none) rfl ?_)
  show wpAny _ _ (mkInt c >>= _) _ _ ⟨h₁, g, d, tk, os⟩
  refine wpAny_bind (wpAny_mkInt ?_)
  show wpAny _ _ (setField (.ref e) 3 (rawInt (c + 1)) >>= _) _ _ ⟨h₁, g, d, tk + 1, os⟩
  refine wpAny_bind (wpAny_setField_rec he₁ (by simp) fun h₂ he₂ hs₂ => ?_)
  replace hs₂ : Heap.SameBut e h₁ h₂ := hs₂
  replace he₂ : IsEnum h₂ e z (c + 1) old := he₂
  show wpAny _ _ (setField (.ref e) 4 .none >>= _) _ _ ⟨h₂, g, d, tk + 1, os⟩
  refine wpAny_bind (wpAny_setField_rec he₂ (by simp) fun h₃ he₃ hs₃ => ?_)
  replace hs₃ : Heap.SameBut e h₂ h₃ := hs₃
  replace he₃ : IsEnum h₃ e z (c + 1) old := he₃
  show wpAny _ _ (newTuple [.int c tk, .ref hp.objs.size] >>= _) _ _ ⟨h₃, g, d, tk + 1, os⟩
  refine wpAny_bind (wpAny_newTuple ?_)
  have he₄ : IsEnum (h₃.push { cls := .type "tuple", data := .seq #[.int c tk, .ref hp.objs.size] }) e z (c + 1) old := Heap.get?_push_of_some _ he₃
  generalize hh₄ : h₃.push { cls := .type "tuple", data := .seq #[.int c tk, .ref hp.objs.size] } = h₄ at he₄
  have hsz : h₃.objs.size = h₁.objs.size := by rw [hs₃.1, hs₂.1]
  have hel : e < h₁.objs.size := Heap.lt_size he₁
  have ht₄ : h₄.get? h₁.objs.size = some { cls := .type "tuple", data := .seq #[.int c tk, .ref hp.objs.size] } := by rw [← hh₄, ← hsz]; exact Heap.get?_push_size _ rfl
  have hk₄ : ∀ b o, b ≠ e → h₁.get? b = some o → h₄.get? b = some o := fun b o hbe hb => by
    rw [← hh₄]; exact Heap.get?_push_of_some _ (hs₃.extBut b o hbe (hs₂.extBut b o hbe hb))
  show wpAny _ _ (Builtin.SmallTypes.ownedTupleIsFree (.ref e) >>= _) _ _ ⟨h₄, g, d, tk + 1, os⟩
  rw [hsz]
  clear hh₄ he₃ hs₃ he₂ hs₂ hsz h₃ h₂
  refine wpAny_bind ?_
  · unfold Builtin.SmallTypes.ownedTupleIsFree
    refine wpAny_bind (wpAny_field he₄ rfl (x := .none) rfl (wpAny_pure ?_))
    simp only [if_true]
    refine wpAny_bind (wpAny_rule ?_)
    refine wpAny_bind (wpAny_field he₄ rfl (x := old) rfl ?_)
    refine wpAny_bind (wpAny_setField_rec he₄ (by simp) fun h₅ he₅ hs₅ => ?_)
    replace hs₅ : Heap.SameBut e h₄ h₅ := hs₅
    replace he₅ : IsEnum h₅ e z (c + 1) (.ref hp.objs.size) := he₅
    show wpAny _ _ (Builtin.SmallTypes.ownedTupleHandOut (.ref e) (.ref h₁.objs.size) >>= _) _ _ ⟨h₅, g, d, tk + 1, os⟩
    refine wpAny_bind ?_
    · unfold Builtin.SmallTypes.ownedTupleHandOut
      refine wpAny_bind (wpAny_setField_rec he₅ (by simp) fun h₆ he₆ hs₆ => ?_)
      replace hs₆ : Heap.SameBut e h₅ h₆ := hs₆
      replace he₆ : IsEnumOut h₆ e z (c + 1) (.ref hp.objs.size) h₁.objs.size := he₆
      refine wpAny_setField_rec he₆ (by simp) fun h₇ he₇ hs₇ => ?_
      replace hs₇ : Heap.SameBut e h₆ h₇ := hs₇
      replace he₇ : IsEnumOut h₇ e z (c + 1) (.ref hp.objs.size) h₁.objs.size := he₇
      have up : ∀ b o, b ≠ e → h₁.get? b = some o → h₇.get? b = some o := fun b o hbe hb => hs₇.extBut b o hbe (hs₆.extBut b o hbe (hs₅.extBut b o hbe (hk₄ b o hbe hb)))
      obtain ⟨f0, f1, b1, bm⟩ := b1
      refine wpAny_bind (wpAny_letGo (wpAny_pure ⟨_, rfl, hQ x1 x2 h₁ tk h₇ _ y1 y2 b5 b6 b7 he₇ ⟨f0, f1, up _ _ ez.symm b1, bm⟩ ⟨_, _, up _ _ eT.symm b2⟩ (D1.frame _ _ _ d1 fun b hb o y => up b o (fun q => ef1 (q ▸ hb)) y) (D2.frame _ _ _ d2 fun b hb o y => up b o (fun q => ef2 (q ▸ hb)) y) ?_ up⟩))
      exact hs₇.extBut _ _ (Nat.ne_of_gt hel) (hs₆.extBut _ _ (Nat.ne_of_gt hel) (hs₅.extBut _ _ (Nat.ne_of_gt hel) ht₄))
theorem pyNext_enumZ_item {e : Addr} {c : Int} {old : Value} {Q : Option Value → Shared → Prop} (S : ZipSep2 z TI TO i1 i2 fp1 fp2) (D1 : Draws prog w A.in1.in1 i1 fp1 n1 P1 St1) (D2 : Draws prog w A.in1.in1 i2 fp2 n2 P2 St2)
    (he : IsEnum s.heap e z c old) (hz : ZipMay s.heap z TI TO) (hTI : IsTupOf2 s.heap TI (.ref i1) (.ref i2)) (hTO : IsTupOf2 s.heap TO a1 a2) (st1 : St1 i s.heap) (st2 : St2 i s.heap) (hlt1 : i < n1) (hlt2 : i < n2)
    (ez : e ≠ z) (eT : e ≠ TO) (e1 : e ≠ i1) (e2 : e ≠ i2) (ef1 : e ∉ fp1) (ef2 : e ∉ fp2)
    (hQ : ∀ x1 x2 h1 tk1 h' tk, P1 i x1 → P2 i x2 → IsTupOf2 h1 s.heap.objs.size x1 x2 → h1.objs.size = s.heap.objs.size + 1 → (∀ c o, c ≠ z → c ≠ TO → c ≠ i1 → c ≠ i2 → s.heap.get? c = some o → h1.get? c = some o) →
      IsEnumOut h' e z (c + 1) (.ref s.heap.objs.size) h1.objs.size → ZipMay h' z TI TO → (∃ a1 a2, IsTupOf2 h' TO a1 a2) → St1 (i + 1) h' → St2 (i + 1) h' →
      h'.get? h1.objs.size = some { cls := .type "tuple", data := .seq #[.int c tk1, .ref s.heap.objs.size] } → (∀ b o, b ≠ e → h1.get? b = some o → h'.get? b = some o) → Q (some (.ref h1.objs.size)) { s with heap := h', toks := tk }) :
    wpAny (model prog w) A (pyNext (.ref e)) Q E s := by
  have hT : s.TypeIs (.ref e) "enumerate" := ⟨_, he, rfl⟩
  unfold pyNext
  exact wpAny_bind (wpAny_attempt (wpAny_callSpecial?_slot (name := Str.ofString "__next__") hT F.slot_enumerate_next
    (wpAny_call_entry F.slot_enumerate_next hT F.entry_enumerate_next
      (enumZ_next_item S D1 D2 he hz hTI hTO st1 st2 hlt1 hlt2 ez eT e1 e2 ef1 ef2 fun x1 x2 h1 tk1 h' tk q1 q2 q3 q4 q5 q6 q7 q8 q9 q10 q11 q12 => wpAny_pure (hQ x1 x2 h1 tk1 h' tk q1 q2 q3 q4 q5 q6 q7 q8 q9 q10 q11 q12)) (F.args_enumerate_next_1 _))))
theorem pyNext_enumZ_end {e : Addr} {c : Int} {old : Value} {Q : Option Value → Shared → Prop} (S : ZipSep2 z TI TO i1 i2 fp1 fp2) (D1 : Draws prog w A.in1.in1 i1 fp1 n1 P1 St1) (D2 : Draws prog w A.in1.in1 i2 fp2 n2 P2 St2)
    (he : IsEnum s.heap e z c old) (hz : ZipMay s.heap z TI TO) (hTI : IsTupOf2 s.heap TI (.ref i1) (.ref i2)) (hTO : IsTupOf2 s.heap TO a1 a2) (st1 : St1 i s.heap) (st2 : St2 i s.heap) (hle1 : i ≤ n1) (hle2 : i ≤ n2) (hend : i = n1 ∨ i = n2)
    (hQ : ∀ h' tk, (∀ c o, c ≠ z → c ≠ TO → c ≠ i1 → c ≠ i2 → s.heap.get? c = some o → h'.get? c = some o) → Q none { s with heap := h', toks := tk }) :
    wpAny (model prog w) A (pyNext (.ref e)) Q E s := by
  have hT : s.TypeIs (.ref e) "enumerate" := ⟨_, he, rfl⟩
  unfold pyNext
  refine wpAny_bind (wpAny_attempt (wpAny_callSpecial?_slot (name := Str.ofString "__next__") hT F.slot_enumerate_next
    (wpAny_call_entry F.slot_enumerate_next hT F.entry_enumerate_next ?_ (F.args_enumerate_next_1 _))))
  show wpAny _ _ (field (.ref e) 2 >>= _) _ _ _
  refine wpAny_bind (wpAny_field he rfl (x := .ref z) rfl ?_)
  refine wpAny_bind (zipA_nextOf_end S D1 D2 hz hTI hTO st1 st2 hle1 hle2 hend fun h' tk x he' hx' => ?_)
  obtain ⟨o, ho, hc⟩ := hx'
  refine wpAny_bind (wpAny_isInstance (T := "StopIteration") (b := true) ⟨o, ho, hc⟩ isSubtype_stop ?_)
  exact wpAny_pure (hQ _ _ he')
end
theorem meets_enumerate_newZ {z TI TO : Addr} :
    Meets (Builtin.«enumerate.__new__» ⟨[.type "enumerate", .ref z], []⟩) (fun _ R s => IsZip s.heap z TI TO .none ∧
      R (.ok (.ret (.ref s.heap.objs.size))) { s with heap := s.heap.push { cls := .type "enumerate", data := .fields #[.none, .bool false, .ref z, rawInt 0, .none, .none] } }) :=
  .of_wp fun prog w A R s h => by
    obtain ⟨hp, g, d, tk, os⟩ := s; obtain ⟨h1, h⟩ := h
    have hsub := sub_enumerate
    have q1 : ∀ {A' : Around} {E : Value → Shared → Prop} {Q : Value → Shared → Prop}, Q (.ref z) ⟨hp, g, d, tk, os⟩ → wpAny (model prog w) A' (pyIter (.ref z)) Q E ⟨hp, g, d, tk, os⟩ :=
      fun q => wpAny_pyIter_zip h1 q
    wp_walk using q1
    refine wpAny_stack_any fun st => wpAny_pure ?_
    split
    · rename_i c _ _ _ _ _
      cases (c == Value.type "enumerate")
      · wp_walk using q1
        exact ⟨_, rfl, h⟩
      · wp_walk using q1
        exact ⟨_, rfl, h⟩
    · wp_walk using q1
      exact ⟨_, rfl, h⟩
section
variable {prog : Program} {w : World} {A : Around} {E : Value → Shared → Prop} {s : Shared}
theorem enumZ_begins {z TI TO : Addr} {Q : Value → Shared → Prop} (hz : IsZip s.heap z TI TO .none)
    (h : ∀ h', IsEnum h' s.heap.objs.size z 0 .none → (∀ b o, s.heap.get? b = some o → h'.get? b = some o) → Q (.ref s.heap.objs.size) { s with heap := h' }) :
    wpAny (model prog w) A (call (.type "enumerate") [.ref z]) Q E s := by
  refine callType_new F.called_enumerate (by decide) (F.typeCall_enumerate_1 _) (F.newCall_enumerate_1 _) (fun obj => F.args_object_init_2 obj _) F.entry_enumerate_new
    meets_enumerate_newZ ⟨hz, ?_⟩
  have he : IsEnum (s.heap.push { cls := .type "enumerate", data := .fields #[.none, .bool false, .ref z, rawInt 0, .none, .none] }) s.heap.objs.size z 0 .none := Heap.get?_push_size s.heap rfl
  exact ⟨⟨_, he, rfl⟩, h _ he fun b o x => Heap.get?_push_of_some _ x⟩
end
def ItEZ (K : PySem.W.Frag) (k1 k2 : Sk) (v1 v2 : V) : It :=
  ⟨fun i H => ∃ xs ys : List V, SrcV K k1 v1 xs H ∧ SrcV K k2 v2 ys H ∧ i < min xs.length ys.length,
    fun i H v H' => ∃ T T2 x y, v = .ref T ∧ H T2 = none ∧ upd H T2 (.tup [x, y]) T = none ∧ H' = upd (upd H T2 (.tup [x, y])) T (.tup [.int (i : Nat), .ref T2]) ∧ (∀ xs, SrcV K k1 v1 xs H → xs[i]? = some x) ∧ ∀ ys, SrcV K k2 v2 ys H → ys[i]? = some y,
    fun i H => ∃ xs ys : List V, SrcV K k1 v1 xs H ∧ SrcV K k2 v2 ys H ∧ i = min xs.length ys.length⟩
theorem turn_enumZ {P : Program} {w : World} {K : PySem.W.Frag} {elts : List Expr} {kk : Nat} {tpos : Pos} {k1 k2 : Sk} {v1 v2 : V} {u1 u2 : Value} {e z TI TO i1 i2 : Addr} (D : ZipSep2 z TI TO i1 i2 (i1 :: fpK k1 u1) (i2 :: fpK k2 u2)) (n1 : i1 ∉ fpK k1 u1) (n2 : i2 ∉ fpK k2 u2)
    (ez : e ≠ z) (eI : e ≠ TI) (eT : e ≠ TO) (ef1 : e ∉ i1 :: fpK k1 u1) (ef2 : e ∉ i2 :: fpK k2 u2) (r1 : RelV v1 u1) (r2 : RelV v2 u2) :
    Turn P w K (.Tuple elts kk tpos) (ItEZ K k1 k2 v1 v2) [e, z, TI, TO, i1, i2] e (fun i h => (∃ old, IsEnum h e z ((0 : Int) + (i : Int)) old) ∧ ZipMay h z TI TO ∧ IsTupOf2 h TI (.ref i1) (.ref i2) ∧ (∃ x y, IsTupOf2 h TO x y) ∧ ItK k1 u1 i1 i h ∧ ItK k2 u2 i2 i h) where
  mem := by simp
  obj := fun i h st c hc => by
    obtain ⟨⟨old, he⟩, ⟨f0, f1, hz, _⟩, hTI, ⟨x, y, hTO⟩, h1, h2⟩ := st
    have e' : c = e ∨ c = z ∨ c = TI ∨ c = TO ∨ c = i1 ∨ c = i2 := by simpa using hc
    rcases e' with q | q | q | q | q | q
    · rw [q]; exact ⟨_, he, fun v q => nomatch q⟩
    · rw [q]; exact ⟨_, hz, fun v q => nomatch q⟩
    · rw [q]; exact ⟨_, hTI, fun v q => nomatch q⟩
    · rw [q]; exact ⟨_, hTO, fun v q => nomatch q⟩
    · rw [q]; exact itK_obj h1
    · rw [q]; exact itK_obj h2
  keep := fun i h h' st k => by
    obtain ⟨⟨old, he⟩, ⟨f0, f1, hz, hm⟩, hTI, ⟨x, y, hTO⟩, h1, h2⟩ := st
    exact ⟨⟨old, k e (by simp) _ he⟩, ⟨f0, f1, k z (by simp) _ hz, hm⟩, k TI (by simp) _ hTI, ⟨x, y, k TO (by simp) _ hTO⟩, itK_keep h1 fun o q => k i1 (by simp) o q, itK_keep h2 fun o q => k i2 (by simp) o q⟩
  item := by
    intro X hP hw hK hc i pins s σ H E I hf st hg
    subst hP hw hK
    obtain ⟨⟨old, he⟩, hz, hTI, ⟨a1, a2, hTO⟩, h1, h2⟩ := st
    obtain ⟨xs, ys, hqx, hqy, hi⟩ := hg
    obtain ⟨m1, rfl, rfl, c1, l1, lt1, p1⟩ := srcV_ms I hqx r1
    obtain ⟨m2, rfl, rfl, c2, l2, lt2, p2⟩ := srcV_ms I hqy r2
    have D1 := MS.draws (prog := X.prog) (w := X.w) (A := X.A.in1.in1) (I.ok.hd hc) m1 i1 n1
    have D2 := MS.draws (prog := X.prog) (w := X.w) (A := X.A.in1.in1) (I.ok.hd hc) m2 i2 n2
    have e1 : e ≠ i1 := fun q => ef1 (by rw [q]; exact List.mem_cons_self)
    have e2 : e ≠ i2 := fun q => ef2 (by rw [q]; exact List.mem_cons_self)
    refine pyNext_enumZ_item (P1 := m1.P) (P2 := m2.P) D D1 D2 he hz hTI hTO ⟨h1, c1⟩ ⟨h2, c2⟩ (by rw [l1]; omega) (by rw [l2]; omega) ez eT e1 e2 ef1 ef2 fun x1 x2 g1 tk1 g2 tk q1 q2 t1 z1 k1' ho hz' hTO' s1 s2 t2 k2' => ?_
    obtain ⟨x, hx, rx⟩ := p1 i x1 q1
    obtain ⟨y, hy, ry⟩ := p2 i x2 q2
    refine ⟨_, rfl, wpAny_letOwnedTupleGo_enum (s := { s with heap := g2, toks := tk }) ho fun h'' he' hs' => ?_⟩
    replace hs' : Heap.SameBut e g2 h'' := hs'
    have hez : e < s.heap.objs.size := Heap.lt_size he
    have lt : ∀ {c o}, s.heap.get? c = some o → s.heap.objs.size ≠ c := fun q => Nat.ne_of_gt (Heap.lt_size q)
    have hTn : H s.heap.objs.size = none := I.hok.fresh (Nat.le_refl _)
    have new1 : ObjOk X.prog X.w (upd H s.heap.objs.size (.tup [x, y])) g1 s.heap.objs.size (.tup [x, y]) := ⟨by show 2 ≤ sizeLine; decide, [x1, x2], .cons rx (.cons ry .nil), ⟨_, t1, rfl, _, rfl⟩⟩
    have I1 : Inv X pins σ (upd H s.heap.objs.size (.tup [x, y])) { s with heap := g1, toks := tk1 } :=
      I.turnedNew (t' := tk1) (ch := [z, TO, i1, i2]) (fun c o hb q => k1' c o (fun x => hb (by simp [x])) (fun x => hb (by simp [x])) (fun x => hb (by simp [x])) (fun x => hb (by simp [x])) q) (fun b hb => hf b (by
        have e' : b = z ∨ b = TO ∨ b = i1 ∨ b = i2 := by simpa using hb
        rcases e' with e | e | e | e <;> simp [e])) (Nat.le_refl _) new1
    have kk2 : ∀ b o, b ≠ e → g1.get? b = some o → h''.get? b = some o := fun b o hb q => hs'.extBut b o hb (k2' b o hb q)
    have tn : g1.objs.size ≠ e := by rw [z1]; exact Nat.ne_of_gt (Nat.lt_succ_of_lt hez)
    have t3 : h''.get? g1.objs.size = some { cls := .type "tuple", data := .seq #[.int ((0 : Int) + (i : Int)) tk1, .ref s.heap.objs.size] } := hs'.extBut _ _ tn t2
    have new2 : ObjOk X.prog X.w (upd (upd H s.heap.objs.size (.tup [x, y])) g1.objs.size (.tup [.int (i : Nat), .ref s.heap.objs.size])) h'' g1.objs.size (.tup [.int (i : Nat), .ref s.heap.objs.size]) := ⟨by show 2 ≤ sizeLine; decide, [.int ((0 : Int) + (i : Int)) tk1, .ref s.heap.objs.size], .cons ⟨tk1, by rw [Int.zero_add]⟩ (.cons rfl .nil), ⟨_, t3, rfl, _, rfl⟩⟩
    have I2 : Inv X pins σ (upd (upd H s.heap.objs.size (.tup [x, y])) g1.objs.size (.tup [.int (i : Nat), .ref s.heap.objs.size])) { s with heap := h'', toks := tk } :=
      I1.turnedNew (t' := tk) (ch := [e]) (fun c o hb q => kk2 c o (fun x => hb (by simp [x])) q) (fun b hb => by
        rw [List.mem_singleton.mp hb]
        obtain ⟨f1, f2⟩ := hf e (by simp)
        exact ⟨by rw [upd_ne (Nat.ne_of_lt hez)]; exact f1, f2⟩) (Nat.le_refl _) new2
    obtain ⟨f0, f1, hz', hm'⟩ := hz'
    obtain ⟨b1, b2, hTO'⟩ := hTO'
    obtain ⟨z4, _⟩ := s1
    obtain ⟨z5, _⟩ := s2
    refine ⟨.ref g1.objs.size, _, I2, rfl, ⟨_, _, x, y, rfl, hTn, I1.hok.fresh (Nat.le_refl _), rfl, fun l hl => by rw [srcV_inj I hl hqx]; exact hx, fun l hl => by rw [srcV_inj I hl hqy]; exact hy⟩, ⟨⟨.ref s.heap.objs.size, ?_⟩, ⟨f0, f1, hs'.extBut _ _ ez.symm hz', hm'⟩, hs'.extBut _ _ eI.symm (k2' _ _ eI.symm (k1' _ _ D.TIz D.TITO D.TIi1 D.TIi2 hTI)), ⟨b1, b2, hs'.extBut _ _ eT.symm hTO'⟩, itK_keep z4 fun o q => hs'.extBut _ _ e1.symm q, itK_keep z5 fun o q => hs'.extBut _ _ e2.symm q⟩, fun c hcm => ?_⟩
    · have e0 : (0 : Int) + ((i + 1 : Nat) : Int) = (0 : Int) + (i : Int) + 1 := by omega
      rw [e0]
      exact he'
    · have hlt : c < s.heap.objs.size := by
        obtain ⟨f0, f1, hz, _⟩ := hz
        have e' : c = e ∨ c = z ∨ c = TI ∨ c = TO ∨ c = i1 ∨ c = i2 := by simpa using hcm
        rcases e' with q | q | q | q | q | q
        · rw [q]; exact hez
        · rw [q]; exact Heap.lt_size hz
        · rw [q]; exact Heap.lt_size hTI
        · rw [q]; exact Heap.lt_size hTO
        · rw [q]; obtain ⟨_, e1, _⟩ := itK_obj h1; exact Heap.lt_size e1
        · rw [q]; obtain ⟨_, e2, _⟩ := itK_obj h2; exact Heap.lt_size e2
      rw [upd_ne (by rw [z1]; exact Nat.ne_of_lt (Nat.lt_succ_of_lt hlt)), upd_ne (Nat.ne_of_lt hlt)]
      exact (hf c hcm).1
  done := by
    intro X hP hw hK hc i pins s σ H E I hf st hg
    subst hP hw hK
    obtain ⟨⟨old, he⟩, hz, hTI, ⟨a1, a2, hTO⟩, h1, h2⟩ := st
    obtain ⟨xs, ys, hqx, hqy, hi⟩ := hg
    obtain ⟨m1, rfl, rfl, c1, l1, lt1, p1⟩ := srcV_ms I hqx r1
    obtain ⟨m2, rfl, rfl, c2, l2, lt2, p2⟩ := srcV_ms I hqy r2
    have D1 := MS.draws (prog := X.prog) (w := X.w) (A := X.A.in1.in1) (I.ok.hd hc) m1 i1 n1
    have D2 := MS.draws (prog := X.prog) (w := X.w) (A := X.A.in1.in1) (I.ok.hd hc) m2 i2 n2
    exact pyNext_enumZ_end D D1 D2 he hz hTI hTO ⟨h1, c1⟩ ⟨h2, c2⟩ (by rw [l1]; omega) (by rw [l2]; omega) (by rw [l1, l2]; omega) fun h' tk hk => ⟨rfl, I.turnedL (t' := tk) (ch := [z, TO, i1, i2]) (fun c o hb q => hk c o (fun x => hb (by simp [x])) (fun x => hb (by simp [x])) (fun x => hb (by simp [x])) (fun x => hb (by simp [x])) q) (fun b hb => hf b (by
        have e' : b = z ∨ b = TO ∨ b = i1 ∨ b = i2 := by simpa using hb
        rcases e' with e | e | e | e <;> simp [e]))⟩
  self := fun A i s Q E st h => by
    obtain ⟨⟨old, he⟩, _⟩ := st
    exact wpAny_pyIter_enum he h
def iEnumZ (K : PySem.W.Frag) (ta : TA) : TI := fun σ H R => ta σ H fun vs H1 => ∃ k1 k2 v1 v2 xs ys, vs = [v1, v2] ∧ SrcV K k1 v1 xs H1 ∧ SrcV K k2 v2 ys H1 ∧ R (ItEZ K k1 k2 v1 v2) H1
theorem pi_enumZ {X : Cx} {e e2 : Expr} {ta : TA} {p pos p2 pos2 tpos : Pos} {elts : List Expr} {kk : Nat} (hg : Gl X "enumerate") (hm : X.mg "enumerate" = none) (hg2 : Gl X "zip") (hm2 : X.mg "zip" = none) (ha : PA X [e, e2] ta)
    (hs2 : starEach [e, e2] X.env = (false, eval e X.env) :: starEach [e2] X.env := by rfl) (hpl2 : (backTo pos2 (starEach [e2] X.env)).any (·.1) = false := by rfl)
    (hs : starEach [.Call (.Name "zip" p2) [e, e2] [] pos2] X.env = [(false, eval (.Call (.Name "zip" p2) [e, e2] [] pos2) X.env)] := by rfl) :
    PI X (.Tuple elts kk tpos) (.Call (.Name "enumerate" p) [.Call (.Name "zip" p2) [e, e2] [] pos2] [] pos) (iEnumZ X.K ta) := by
  refine ⟨fun pins s σ H R I h => ?_⟩
  refine Call_ (ld_blt I hg hm PyProof.Rows.boot_enumerate (PyProof.Rows.callWith_type1 ?_ hs rfl))
  rw [hs]
  show wpAny _ _ (spliced ((false, eval (.Call (.Name "zip" p2) [e, e2] [] pos2) X.env) :: [])) _ _ s
  refine Calls.spliced_cons ?_
  refine Call_ (ld_blt I hg2 hm2 PyProof.Rows.boot_zip (PyProof.Rows.callWith_type1 (thn (ha.run pos2 pins s σ H _ I h) fun us s1 ⟨vs, H1, I1, r1, q1⟩ => ?_) hs2 hpl2))
  obtain ⟨k1, k2, v1, v2, xs, ys, rfl, hqx, hqy, q⟩ := q1
  cases r1 with
  | @cons _ u1 _ _ ru1 rr =>
    cases rr with
    | @cons _ u2 _ _ ru2 rr =>
      cases rr
      obtain ⟨m1, e1, e2', c1, _, lt1, _⟩ := srcV_ms I1 hqx ru1
      obtain ⟨m2, e3, e4, c2, _, lt2, _⟩ := srcV_ms I1 hqy ru2
      subst e1 e2' e3 e4
      refine zip_begins2 m1.begins m2.begins c1 c2 fun h' hz hTI hTO h1 h2 hsz hk => Calls.spliced_nil ?_
      refine enumZ_begins (s := { s1 with heap := h' }) hz fun h'' he hk2 => wpAny_pyIter_enum he ?_
      replace he : IsEnum h'' h'.objs.size (s1.heap.objs.size + 4) 0 .none := he
      rw [hsz] at he
      show PIE X pins σ _ R (.ref h'.objs.size) _
      rw [hsz]
      have I2 : Inv X pins σ H1 { s1 with heap := h'' } := I1.kept (t' := s1.toks) fun c o z => hk2 c o (hk c o z)
      have n1 : s1.heap.objs.size ∉ fpK m1.sk m1.val := fun z => absurd (lt1 _ z) (Nat.lt_irrefl _)
      have n2 : s1.heap.objs.size + 1 ∉ fpK m2.sk m2.val := fun z => absurd (lt2 _ z) (Nat.not_lt.mpr (Nat.le_succ _))
      have n5 : s1.heap.objs.size + 5 ∉ s1.heap.objs.size :: fpK m1.sk m1.val := fun z => (List.mem_cons.mp z).elim (fun z => absurd z (show (s1.heap.objs.size + 5 : Nat) ≠ s1.heap.objs.size by omega)) fun z => absurd (lt1 _ z) (Nat.not_lt.mpr (Nat.le_add_right _ _))
      have n6 : s1.heap.objs.size + 5 ∉ (s1.heap.objs.size + 1) :: fpK m2.sk m2.val := fun z => (List.mem_cons.mp z).elim (fun z => absurd z (show (s1.heap.objs.size + 5 : Nat) ≠ s1.heap.objs.size + 1 by omega)) fun z => absurd (lt2 _ z) (Nat.not_lt.mpr (Nat.le_add_right _ _))
      refine ⟨s1.heap.objs.size + 5, [s1.heap.objs.size + 5, s1.heap.objs.size + 4, s1.heap.objs.size + 2, s1.heap.objs.size + 3, s1.heap.objs.size, s1.heap.objs.size + 1], _, _, H1, rfl, I2, turn_enumZ (zip_sep2 lt1 lt2) n1 n2 (show (s1.heap.objs.size + 5 : Nat) ≠ s1.heap.objs.size + 4 by omega) (show (s1.heap.objs.size + 5 : Nat) ≠ s1.heap.objs.size + 2 by omega) (show (s1.heap.objs.size + 5 : Nat) ≠ s1.heap.objs.size + 3 by omega) n5 n6 ru1 ru2, ⟨⟨_, he⟩, ⟨_, _, hk2 _ _ hz, .inl rfl⟩, hk2 _ _ hTI, ⟨_, _, hk2 _ _ hTO⟩, m1.starts (hk2 _ _ h1), m2.starts (hk2 _ _ h2)⟩, fun c hcm => ?_, q⟩
      have e' : c = s1.heap.objs.size + 5 ∨ c = s1.heap.objs.size + 4 ∨ c = s1.heap.objs.size + 2 ∨ c = s1.heap.objs.size + 3 ∨ c = s1.heap.objs.size ∨ c = s1.heap.objs.size + 1 := by simpa using hcm
      have hle : s1.heap.objs.size ≤ c := by
        rcases e' with z | z | z | z | z | z
        · rw [z]; exact Nat.le_add_right _ _
        · rw [z]; exact Nat.le_add_right _ _
        · rw [z]; exact Nat.le_add_right _ _
        · rw [z]; exact Nat.le_add_right _ _
        · rw [z]; exact Nat.le_refl _
        · rw [z]; exact Nat.le_add_right _ _
      exact I1.fpOk hle (I1.hok.fresh hle)
theorem walks_enumZ {P : Par} {d1 d2 : D} {v1 v2 : V} {k1 k2 : Sk} {xs ys : List D} (e1 : d1.src = some (k1, xs)) (e2 : d2.src = some (k2, ys)) : Walks P (ItEZ P.K k1 k2 v1 v2) [(d1, v1), (d2, v2)] (enumD (zipD xs ys)) where
  goes i H B hi t := by
    obtain ⟨vs, h, r⟩ := src_rep (t _ List.mem_cons_self) e1
    obtain ⟨ws, h2, r2⟩ := src_rep (t _ (List.mem_cons_of_mem _ (List.mem_singleton.mpr rfl))) e2
    refine ⟨vs, ws, h, h2, ?_⟩
    rw [enumD_len] at hi
    unfold zipD at hi
    rw [List.length_zipWith] at hi
    rw [r.length, r2.length]
    exact hi
  stops H B t := by
    obtain ⟨vs, h, r⟩ := src_rep (t _ List.mem_cons_self) e1
    obtain ⟨ws, h2, r2⟩ := src_rep (t _ (List.mem_cons_of_mem _ (List.mem_singleton.mpr rfl))) e2
    refine ⟨vs, ws, h, h2, ?_⟩
    rw [enumD_len]
    unfold zipD
    rw [List.length_zipWith, r.length, r2.length]
  yields i H x H' B d t hd y := by
    obtain ⟨vs, h, r⟩ := src_rep (t _ List.mem_cons_self) e1
    obtain ⟨ws, h2, r2⟩ := src_rep (t _ (List.mem_cons_of_mem _ (List.mem_singleton.mpr rfl))) e2
    obtain ⟨dx, dp, f1, f2, rfl⟩ := zipD_get hd
    obtain ⟨da, db, g1', g2', rfl⟩ := zipD_get f2
    obtain ⟨T, T2, vx, vy, hv, hT2, hT, hH, g1, g2⟩ := y
    obtain ⟨w1, f1', r1⟩ := r.get g1'
    obtain ⟨w2, f2', r2'⟩ := r2.get g2'
    have z1 := g1 vs h
    have z2 := g2 ws h2
    rw [f1'] at z1
    rw [f2'] at z2
    cases z1
    cases z2
    unfold idxD at f1
    rw [List.getElem?_map] at f1
    have ei : dx = nD i := by
      cases hr : (List.range (zipD xs ys).length)[i]? with
      | none => rw [hr] at f1; cases f1
      | some j =>
        rw [hr] at f1
        cases f1
        obtain ⟨hlt, he⟩ := List.getElem?_eq_some_iff.mp hr
        rw [List.getElem_range] at he
        rw [he]
    subst ei
    exact ⟨.two ⟨T2, _, T, _, hT2, hT, hH⟩, pair_rep hv hT hH rfl (pair_rep rfl hT2 rfl r1 r2')⟩
section
variable {X : Cx} {Tb : Tbs} {ra : RA Tb} {E : XK} {e e2 : Expr} {am : AM} {pos p pos2 p2 tpos : Pos}
def enumZD : List D → Option (List D)
  | [a, b] => a.src.bind fun x => b.src.map fun y => enumD (zipD x.2 y.2)
  | _ => none
def iEnumZM (am : AM) : AM := fun ρ st => (am ρ st).bind fun ds st1 => Res.of (enumZD ds) st1
theorem di_enumZ {elts : List Expr} {kk : Nat} (hg : Gl X "enumerate") (hm : X.mg "enumerate" = none) (hg2 : Gl X "zip") (hm2 : X.mg "zip" = none) (ha : DA X ra E [e, e2] am)
    (hs2 : starEach [e, e2] X.env = (false, eval e X.env) :: starEach [e2] X.env := by rfl) (hpl2 : (backTo pos2 (starEach [e2] X.env)).any (·.1) = false := by rfl)
    (hs : starEach [.Call (.Name "zip" p2) [e, e2] [] pos2] X.env = [(false, eval (.Call (.Name "zip" p2) [e, e2] [] pos2) X.env)] := by rfl) : DI X ra E (.Tuple elts kk tpos) (.Call (.Name "enumerate" p) [.Call (.Name "zip" p2) [e, e2] [] pos2] [] pos) (iEnumZM am) :=
  PI.imp (pi_enumZ hg hm hg2 hm2 ha hs2 hpl2 hs) fun σ H R ⟨B, ρ, st, p, q⟩ => ⟨B, ρ, st, p, Post.seq q fun ds st1 vs H1 hq e1 w1 rs q1 => by
    clear hq
    cases hz : enumZD ds with
    | none => rw [hz] at q1; exact q1.elim
    | some zs =>
      rw [hz] at q1
      unfold enumZD at hz
      split at hz
      · rename_i a b
        cases ha : a.src with
        | none => rw [ha] at hz; cases hz
        | some x =>
          cases hb : b.src with
          | none => rw [ha, hb] at hz; cases hz
          | some y =>
            rw [ha, hb] at hz
            cases hz
            obtain ⟨v1, v2, rfl, r1, r2⟩ := reps2 rs
            obtain ⟨xs, s1, _⟩ := src_rep r1 ha
            obtain ⟨ys, s2, _⟩ := src_rep r2 hb
            refine ⟨x.1, y.1, v1, v2, xs, ys, rfl, s1, s2, q1 _ H1 Ext.refl w1 ⟨_, walks_enumZ ha hb, fun t m => ?_⟩⟩
            rcases List.mem_cons.mp m with m | m
            · rw [m]; exact r1
            · rw [List.mem_singleton.mp m]; exact r2
      · cases hz⟩
theorem w_enumZL {ρ : EE} {st st1 : DS} {xs ys : List D} (h : am ρ st = .ok [.lst xs, .lst ys] st1) : iEnumZM am ρ st = .ok (enumD (zipD xs ys)) st1 := by unfold iEnumZM; rw [h]; rfl
end
end Ev

namespace Ev
open PySem PySem.Spec PyProof.Rows L2
/-! ### a dict is no tuple -/
theorem tuple_eq_declines_dict (l b : Addr) (items : Array Value) (n : Nat) (dd dd2 : Option Addr) (sl sl2 : Array (Option Value)) (es : Array DictEntry) (ep : Nat) :
    Meets (Builtin.«tuple.__eq__» ⟨[.ref l, .ref b], []⟩) (fun _ R s => s.heap.get? l = some { cls := .type "tuple", dict := dd, data := .seq items n, slots := sl } ∧ s.heap.get? b = some { cls := .type "dict", dict := dd2, data := .dict es ep, slots := sl2 } ∧ R (.ok (.ret .notImplemented)) s) :=
  .of_wp fun prog w A R s h => by obtain ⟨hp, g, d, tk, os⟩ := s; obtain ⟨hl, hb, h⟩ := h; have f1 := PySem.F.sub_dict_tuple; wp_walk using wpAny_loadPart' hl, wpAny_loadPart' hb; exact ⟨_, rfl, h⟩
section
variable {prog : Program} {w : World} {A : Around} {E : Value → Shared → Prop} {s : Shared}
theorem rc_dict_tuple {a b : Addr} {es : Array DictEntry} {ep : Nat} {its : Array Value} {Q : Value → Shared → Prop} (ha : s.heap.DictRaw a es ep) (hb : s.heap.IsTuple b its) (hu : A.units < cLine) (h : Q (.bool false) s) :
    wpAny (model prog w) A (richCompare .Eq (.ref a) (.ref b)) Q E s := by
  obtain ⟨⟨cls, dd, data, sl⟩, ho, hc, hd⟩ := id ha
  obtain ⟨⟨cls2, dd2, data2, sl2⟩, ho2, hc2, n2, hd2⟩ := id hb
  obtain ⟨hc, hx⟩ := hc
  simp only at hc hd hc2 hd2
  subst hc hd hc2 hd2
  have hne : a ≠ b := fun e => by subst e; rw [ho] at ho2; exact absurd (congrArg Obj.data (Option.some.inj ho2)) (fun z => nomatch z)
  have tA : s.TypeIs (.ref a) "dict" := ⟨_, ho, rfl⟩
  have tB : s.TypeIs (.ref b) "tuple" := ⟨_, ho2, rfl⟩
  exact SeqAt.rc_eq_decline_or (k := false) tA tB (by decide) PySem.F.sub_tuple_dict PySem.F.slot_dict_eq PySem.F.slot_tuple_eq_refl
    (fun _ hq => wpAny_call_entry PySem.F.slot_dict_eq tA PySem.F.entry_dict_eq (by
      show wpAny _ _ (Builtin.Dict.dictSlotArgs "__eq__" ⟨[.ref a, .ref b], []⟩ >>= _) _ _ s
      refine wpAny_bind ?_
      unfold Builtin.Dict.dictSlotArgs
      refine wpAny_bind (wpAny_notOrdered_dict tA ?_)
      show wpAny _ _ (pure (Value.ref a, Value.ref b)) _ _ s
      refine wpAny_pure ?_
      refine wpAny_bind (wpAny_isInstance (T := "tuple") tB PySem.F.sub_tuple_dict ?_)
      simp only [Bool.not_false, if_true]
      exact wpAny_bind (wpAny_rule (wpAny_pure ⟨_, rfl, hq⟩))) (PySem.F.args_dict_eq_2 _ _))
    (fun _ hq => call_meets PySem.F.slot_tuple_eq_refl tB PySem.F.entry_tuple_eq (PySem.F.args_tuple_eq_2 _ _) (tuple_eq_declines_dict b a its n2 dd2 dd sl2 sl es ep) ⟨ho2, ho, hq⟩)
    (fun _ hq => wpAny_isSame_ref_other hne ho ho2 (by simp) hq) (.inr hu) h
end
def xEqDT : D → D → Option D
  | .dic _ _, .tup _ => some (.bl false)
  | _, _ => none
def xEqM : D → D → Option D := orD xEq xEqDT
section
variable {X : Cx} {Tb : Tbs} {ra : RA Tb}
theorem o_eqDT (hu : X.A.units + 64 < cLine) : OpD X ra (compareOp .Eq) xEqDT := by
  refine ⟨fun x y H Q => ∃ (a b : Addr) (o : HO) (ks : List D) (kvs : List (V × V)) (vs : List V), x = .ref a ∧ y = .ref b ∧ H a = some o ∧ DicAt X.w a ks kvs o ∧ SqT X.K H b vs ∧ Q (.bl false) H, fun pins s σ H x y v u Q I rx ry h => ?_, fun B H st x y z vx vy Q b d w rx ry e q => ?_⟩
  · obtain ⟨a, b, o, ks, kvs, vs, rfl, rfl, ho, da, hb, q⟩ := h
    cases rx
    cases ry
    obtain ⟨es, ep, hr, _⟩ := dic_raw I ho da
    obtain ⟨its, _, ht, _⟩ := I.tuple hb
    exact rc_dict_tuple hr ht (Nat.lt_of_le_of_lt (Nat.le_add_right _ 64) hu) ⟨.bl false, H, I, rfl, q⟩
  · unfold xEqDT at e
    split at e
    · cases e
      obtain ⟨a, o, kvs, rfl, ho, da, _⟩ := rx
      obtain ⟨b', vs, rfl, hb, _⟩ := ry
      exact ⟨a, b', o, _, kvs, vs, rfl, rfl, ho, da, hb, q _ H Ext.refl w rfl⟩
    · cases e
theorem o_eqM (hu : X.A.units + 64 < cLine) : OpD X ra (compareOp .Eq) xEqM := (o_eq hu).or (o_eqDT hu)
end
theorem xm_eq {a b c : D} (h : xEq a b = some c) : xEqM a b = some c := by show orD xEq xEqDT a b = _; unfold orD; rw [h]
end Ev

namespace Ev
open PySem PySem.Spec PyProof.Rows L2
/-! ### sorted(set(t)), a tuple of ints -/
section
variable {P : Program} {w : World} {A : Around} {E : Value → Shared → Prop} {s : Shared}
theorem call_set_intsT {l : Addr} {items : Array Value} (ns : List Int) {Q : Value → Shared → Prop} (hh : A.handled = none) (hl : s.heap.IsTuple l items) (hit : IntsAre items.toList ns) (hb : ns.length + 1 < scanBound)
    (h : ∀ (h' : Heap) (tk c : Nat), SetR w h' s.heap.objs.size (fun j => decide (j ∈ ns)) c → c ≤ ns.length → (∀ b o, s.heap.get? b = some o → h'.get? b = some o) → Q (.ref s.heap.objs.size) { s with heap := h', toks := tk }) :
    wpAny (model P w) A (call (.type "set") [.ref l]) Q E s := by
  have hisz : items.size = ns.length := by
    have q := IntsAre.length hit
    rw [Array.length_toList] at q
    exact q
  obtain ⟨c, tl, hmro⟩ := PySem.F.called_set.mro
  have hmade := PySem.F.called_set.made
  have hsub := PySem.F.called_set.sub
  refine wpAny_call (codeAny_of_tree ?_)
  show wpAny _ _ (callAny (.type "set") _) _ _ _
  refine wpAny_pure ⟨Code.quiet_builtin _ (by decide +kernel), codeAny_builtin PySem.F.entry_type_call ?_⟩
  rw [Around.under_plain (weight_type_call_type "set" [.ref l] []) rfl]
  have h1 := PySem.F.called_set.notType
  have h2 := PySem.F.called_set.canCreate
  have hct := PySem.F.typeCall_set_1 (.ref l)
  repeat (any_goals (first | assumption | wp_step))

  refine codeAny_mono (code_set_led1 (.ref l) (E := E) (Q₁ := fun obj s₁ => obj = .ref s.heap.objs.size ∧ s₁ = { s with heap := s.heap.push { cls := .type "set", dict := none, data := .set #[] 0 (.fresh 0 0 (!w.params.followText "set-order")) } }) ⟨rfl, rfl⟩) fun r s₁ hr => ?_
  cases r with
  | error e => exact hr
  | ok fl =>
    cases fl with
    | ret obj =>
      obtain ⟨rfl, rfl⟩ := hr
      have hS : (s.heap.push { cls := .type "set", dict := none, data := .set #[] 0 (.fresh 0 0 (!w.params.followText "set-order")) }).get? s.heap.objs.size = some { cls := .type "set", dict := none, data := .set #[] 0 (.fresh 0 0 (!w.params.followText "set-order")) } := Heap.get?_push_size _ rfl
      have hT : Shared.TypeIs { s with heap := s.heap.push { cls := .type "set", dict := none, data := .set #[] 0 (.fresh 0 0 (!w.params.followText "set-order")) } } (.ref s.heap.objs.size) "set" := ⟨_, hS, rfl⟩
      have hli := PySem.F.called_set.init.lookup
      have hbi := PySem.F.called_set.init.bind (.ref s.heap.objs.size)
      repeat (any_goals (first | assumption | wp_step))

      refine codeAny_mono (codeAny_call_builtin (R := wants (fun r s₂ => r = .none ∧ ∃ h' tk c, s₂ = { s with heap := h', toks := tk } ∧ SetR w h' s.heap.objs.size (fun j => decide (j ∈ ns)) c ∧ c ≤ ns.length ∧
          (∀ b o, s.heap.get? b = some o → h'.get? b = some o)) E) PySem.F.called_set.init.plain PySem.F.entry_set_init (check_set_init_1 hT ?_)) fun r₂ s₂ hr₂ => ?_
      · obtain ⟨ol, hol, hcl, nl, hdl⟩ := hl
        obtain ⟨ocls, odict, odata, oslots⟩ := ol
        simp only at hcl hdl
        subst hcl; subst hdl
        have hol' : (s.heap.push { cls := .type "set", dict := none, data := .set #[] 0 (.fresh 0 0 (!w.params.followText "set-order")) }).get? l = some { cls := .type "tuple", dict := odict, data := .seq items nl, slots := oslots } := Heap.get?_push_of_some _ hol
        have hsls := PySem.F.sub_tuple_set
        have hslf := PySem.F.sub_tuple_frozenset
        have hne : (Value.type "tuple" == Value.type "dict") = false := by decide
        have hl1 : (s.heap.push { cls := .type "set", dict := none, data := .set #[] 0 (.fresh 0 0 (!w.params.followText "set-order")) }).IsTuple l items := ⟨_, hol', rfl, nl, rfl⟩
        unfold Builtin.«set.__init__» noKeywords Builtin.Frozenset.updateFrom
        generalize hPI : pyIter = PI
        wp_walk
        subst hPI

        refine wpAny_pyIter_tuple hl1 ?_
        refine wpAny_bind (wpAny_runValue ?_)
        have hlS : l < s.heap.objs.size := Heap.lt_size hol
        have hh3 : A.in1.in1.in1.handled = none := by simp [hh]
        have hz1 : (s.heap.push { cls := .type "set", dict := none, data := .set #[] 0 (.fresh 0 0 (!w.params.followText "set-order")) }).objs.size = s.heap.objs.size + 1 := Heap.size_push ..
        have hneI : l ≠ (s.heap.push { cls := .type "set", dict := none, data := .set #[] 0 (.fresh 0 0 (!w.params.followText "set-order")) }).objs.size := by
          rw [Heap.size_push]; exact Nat.ne_of_lt (Nat.lt_succ_of_lt hlS)
        have hSf : s.heap.objs.size ∉ [(s.heap.push { cls := .type "set", dict := none, data := .set #[] 0 (.fresh 0 0 (!w.params.followText "set-order")) }).objs.size, l] := by
          rw [Heap.size_push]; simp only [List.mem_cons, List.mem_singleton, List.not_mem_nil, or_false, not_or]
          exact ⟨Nat.ne_of_lt (Nat.lt_succ_self _), Nat.ne_of_gt hlS⟩
        have hval : ∀ (i : Nat) (v : Value), items[i]? = some v → ∃ k t, ns[i]? = some k ∧ v = .int k t := fun i v hv => by
          have hi : i < ns.length := by rw [← hisz]; exact (Array.getElem?_eq_some_iff.mp hv).1
          obtain ⟨t, e⟩ := PyProof.Rows.IntsAre.int_at hit i v (by rw [Array.getElem?_toList]; exact hv)
          refine ⟨ns[i], t, List.getElem?_eq_getElem hi, ?_⟩
          rw [e, List.getD_eq_getElem?_getD, List.getElem?_eq_getElem hi] <;> rfl
        refine set_update_ints ((Walks.tuple hh3 _ l hneI items).toS) s.heap.objs.size
          hSf ns hisz hb hval (items.size - 0) 0 _ (by omega) (Nat.zero_le _)
          ⟨⟨_, Heap.get?_push_size _ rfl, rfl, rfl⟩, (Heap.IsTuple.at hl1 fun o e => Heap.get?_push_of_some _ e)⟩ ?hS0 ?hR
        case hS0 =>
          have hget : ((s.heap.push { cls := .type "set", dict := none, data := .set #[] 0 (.fresh 0 0 (!w.params.followText "set-order")) }).push { cls := .type "tuple_iterator", data := .fields #[.ref l, .int 0 0] }).get? s.heap.objs.size
              = some { cls := .type "set", dict := none, data := .set #[] 0 (.fresh 0 0 (!w.params.followText "set-order")) } := Heap.get?_push_of_some _ hS
          exact ⟨0, Nat.le_refl 0, setR_new_at hget⟩
        case hR =>
          intro s' c' hm hc' hS'
          obtain ⟨h', g2, d', tk', os'⟩ := s'
          have eg : g2 = s.gens := hm.gens
          have ed : d' = s.drawn := hm.drawn
          have eo : os' = s.os := hm.os
          subst eg; subst ed; subst eo
          show wpAny _ _ _ _ _ _
          refine wpAny_pure ?_
          show wpAny _ _ (ret Value.none) _ _ _
          rw [hisz] at hc'
          refine wpAny_pure ⟨rfl, h', tk', c', rfl, hS', hc', fun b o e => ?_⟩
          have hb0 : b < s.heap.objs.size := Heap.lt_size e
          have hb1 : b ≠ s.heap.objs.size := Nat.ne_of_lt hb0
          have hb2 : b ≠ (s.heap.push { cls := .type "set", dict := none, data := .set #[] 0 (.fresh 0 0 (!w.params.followText "set-order")) }).objs.size := by
            rw [Heap.size_push]; exact Nat.ne_of_lt (Nat.lt_succ_of_lt hb0)
          exact hm.heap b o (by simp only [List.mem_cons, List.mem_singleton, List.not_mem_nil, or_false, not_or]; exact ⟨hb1, hb2⟩) (Heap.get?_push_of_some _ (Heap.get?_push_of_some _ e))

      · cases r₂ with
        | error e => exact hr₂
        | ok fl₂ =>
          cases fl₂ with
          | ret r =>
            obtain ⟨rfl, h', tk, c', rfl, hS', hc', hk'⟩ := hr₂
            repeat (any_goals (first | assumption | wp_step))
            exact h _ _ _ hS' hc' hk'
          | _ => exact hr₂.elim
    | _ => exact hr.elim

end
def fSortSetT (m : EM) : AM := fun ρ st => (m ρ st).bind fun x st1 => match x with
  | .tup xs => (Res.of (D.ints xs) st1).bind fun ns st1 => if ns.length ≤ 60 then .ok ((srtU ns).map D.int) st1 else .stuck
  | _ => .stuck
def tSortSetTI (K : PySem.W.Frag) (ta : TE) : TE := fun σ H Q => ta σ H fun x H1 => ∃ (l : Addr) (ns : List Int), x = .ref l ∧ SqT K H1 l (ns.map V.int) ∧ ns.length ≤ 60 ∧ ∀ p, H1 p = none → Q (.ref p) (upd H1 p (.lst ((srtU ns).map V.int)))
section
variable {X : Cx} {Tb : Tbs} {ra : RA Tb} {E : XK}
theorem pe_sortSetTI {a : Expr} {ta : TE} {p p2 q pos : Pos} (hc : X.calm = true) (hg : Gl X "sorted") (hm : X.mg "sorted" = none) (hg2 : Gl X "set") (hm2 : X.mg "set" = none) (ha : PE X a ta)
    (na : starEach [a] X.env = (false, eval a X.env) :: starEach [] X.env := by rfl) : PE X (.Call (.Name "sorted" p) [.Call (.Name "set" p2) [a] [] q] [] pos) (tSortSetTI X.K ta) := by
  refine ⟨fun pins s σ H Q I h => ?_⟩
  refine Call_ (ld_blt I hg hm (show bootBuiltins "sorted" = some (.builtin "sorted") from rfl) ?_)
  refine callWith_builtin1 (args_cons ?_ rfl) rfl rfl
  refine Call_ (ld_blt I hg2 hm2 boot_set ?_)
  refine callWith_type1 (args_cons (thn (ha.run pins s σ H _ I h) fun v s1 ⟨x, H1, I1, r1, q1⟩ => args_nil ?_) na) na rfl
  obtain ⟨l, ns, rfl, hq, h1, q1⟩ := q1
  cases r1
  obtain ⟨its, r, pl, hz⟩ := I1.tuple hq
  refine call_set_intsT ns (I1.ok.hd hc) pl (by simpa using r.ints) (by unfold scanBound; omega) fun h' tk c hS hc' hk => args_nil ?_
  have I2 : Inv X pins σ H1 { s1 with heap := h', toks := tk } := I1.kept fun b o e => hk b o e
  refine sorted_set hS (I2.ok.hd hc) (by omega) fun s' p out c2 ms k g o hp hg hi hs hm hl => ?_
  have em : ms = srtU ns := asc_one hs srtU_asc fun k => by rw [hm, srtU_mem, decide_eq_true_iff]
  subst em
  have hlen : ((srtU ns).map V.int).length ≤ sizeLine := by rw [List.length_map, hl, sizeLine_eq]; omega
  have hn : H1 p = none := I2.hok.fresh hp
  have hok : HOk X.prog X.w (upd H1 p (.lst ((srtU ns).map V.int))) s'.heap := I2.hok.laid k hp ⟨hlen, out.toList, c2, vals_of_ints hi, hg⟩
  have J : Inv X pins σ (upd H1 p (.lst ((srtU ns).map V.int))) s' := I2.call' (ch := []) o (Un.laid k hp hn) hok (by rw [g]; exact I2.bare) (fun _ z => nomatch z)
  exact ⟨.ref p, _, J, rfl, q1 p hn⟩
theorem df_sortSetT {a : Expr} {ma : EM} {p p2 q pos : Pos} (hc : X.calm = true) (hg : Gl X "sorted") (hm : X.mg "sorted" = none) (hg2 : Gl X "set") (hm2 : X.mg "set" = none) (ha : DE X ra E a ma)
    (na : starEach [a] X.env = (false, eval a X.env) :: starEach [] X.env := by rfl) : DF X ra E (.Call (.Name "sorted" p) [.Call (.Name "set" p2) [a] [] q] [] pos) (fSortSetT ma) :=
  PE.imp (pe_sortSetTI hc hg hm hg2 hm2 ha na) fun σ H Q ⟨B, ρ, st, p, q⟩ => ⟨B, ρ, st, p, Post.seq q fun x st1 vx H1 hq1 e1 w1 rx q1 => by
    cases x with
    | tup xs =>
      obtain ⟨l, vs, rfl, hl, rs⟩ := rx
      cases hz : D.ints xs with
      | none =>
        have q1 : Post (pr X ra) B H1 E _ Q ((Res.of (D.ints xs) st1).bind fun ns st1 => if ns.length ≤ 60 then .ok ((srtU ns).map D.int) st1 else .stuck) := q1
        rw [hz] at q1
        exact q1.elim
      | some ns =>
        have q1 : Post (pr X ra) B H1 E _ Q ((Res.of (D.ints xs) st1).bind fun ns st1 => if ns.length ≤ 60 then .ok ((srtU ns).map D.int) st1 else .stuck) := q1
        rw [hz] at q1
        have q1 : Post (pr X ra) B H1 E _ Q (if ns.length ≤ 60 then .ok ((srtU ns).map D.int) st1 else .stuck) := q1
        have ev := ints_reps hz rs
        subst ev
        by_cases hc : ns.length ≤ 60
        · rw [if_pos hc] at q1
          exact ⟨l, ns, rfl, hl, hc, fun t ht => q1 (.ref t) _ (Ext.new ht) (w1.new ht) ⟨t, _, rfl, e1.fresh ht, upd_same, int_reps _⟩⟩
        · rw [if_neg hc] at q1
          exact q1.elim
    | _ => exact q1.elim⟩
end
end Ev

section
open PySem PySem.Spec PyProof.Rows L2 Ev
namespace LW
def top (i : Nat) : Stmt := PySem.Challenge.pw_turnfriends_k32_known_ring_of_five.main.body.getD i (.Pass ⟨0, 0, 0, 0⟩)
structure Txt (K : PySem.W.Frag) (mg : Str → Option Value) : Prop where
  b_all : mg "all" = none
  b_bool : mg "bool" = none
  b_int : mg "int" = none
  b_isinstance : mg "isinstance" = none
  b_len : mg "len" = none
  b_list : mg "list" = none
  b_max : mg "max" = none
  b_min : mg "min" = none
  b_range : mg "range" = none
  b_reversed : mg "reversed" = none
  b_sorted : mg "sorted" = none
  b_str : mg "str" = none
  b_tuple : mg "tuple" = none
  b_zip : mg "zip" = none
  c_LOOKS : ∃ t, mg "LOOKS" = some (.str "XYZ" t)
  c_MOST_PEOPLE : ∃ t, mg "MOST_PEOPLE" = some (.int 8 t)
section
variable {P : Program} {w : World} {K : PySem.W.Frag} {mg : Str → Option Value} {base : Heap} {Tb : Tbs}
/-! _law_taken -/
abbrev s__law_taken : Stmt := top 28
abbrev n__law_taken : List Str := ["_law_row", "_law_many", "_law_found", "_law_cell"]
theorem sc__law_taken : FnScope n__law_taken ["_law_row", "_law_many"] (defScope s__law_taken) := ⟨rfl, rfl, rfl, by decide +kernel, rfl, by decide +kernel, by decide +kernel⟩
def b__law_taken : SM :=
  sSeq (sIf (cTest (cOp xGtA (cRow 0 3) (cCon (.int 0))))
  (sSeq (sSetS 2 (cOp xMod (cBlt xInt (aCons (cRow 0 3) (aNil))) (cVar 1)))
  (sSeq (sRow 0 3 (cOp xDiv (cRow 0 3) (cVar 1)))
  (sRet (cVar 2))))
  (sNop))
  (sSeq (sRow 0 1 (cOp xAdd (cRow 0 1) (cCon (.int 1))))
  (sSeq (sIf (cTest (cOp xGtA (cRow 0 1) (cRowLen 0)))
  (sSeq (sRow 0 2 (cOp xMod (cBlt xInt (aCons (cOp xAdd (cOp xMulI (cRow 0 2) (cCon (.int 48271))) (cCon (.int 11))) (aNil))) (cCon (.int 2147483647))))
  (sRet (cOp xMod (cBlt xInt (aCons (cOp xDiv (cRow 0 2) (cCon (.int 7))) (aNil))) (cVar 1))))
  (sNop))
  (sSeq (sSetS 3 (cRowCell 0 (cOp xSub (cRow 0 1) (cCon (.int 1)))))
  (sSeq (sRow 0 2 (cOp xMod (cBlt xInt (aCons (cOp xAdd (cOp xAdd (cOp xMulI (cRow 0 2) (cCon (.int 48271))) (cVar 3)) (cCon (.int 11))) (aNil))) (cCon (.int 2147483647))))
  (sSeq (sIf (cTest (cOp xGeA (cVar 3) (cOp xPow (cCon (.int 10)) (cCon (.int 18)))))
  (sRow 0 3 (cOp xDiv (cVar 3) (cVar 1)))
  (sNop))
  (sRet (cOp xMod (cBlt xInt (aCons (cVar 3) (aNil))) (cVar 1))))))))
def f__law_taken : FM := runB 4 b__law_taken
theorem ok__law_taken (T : Txt K mg) (D0 : DefAt K mg "_law_taken" s__law_taken) : FnD P w K mg base Tb 1 "_law_taken" 2 f__law_taken :=
  fnD_of (ps := ["_law_row", "_law_many"]) (N := n__law_taken) (nb := b__law_taken) D0 sc__law_taken (fun _ _ _ _ _ _ us hl => match us, hl with | [_, _], _ => rfl) (by decide) fun f cdv A outer s H E ra hr =>
    (dss_cons (ds_if (dt_cmp (o_gtA hr.units) (de_row (j := 3) (pv 0)) (de_int))
    (dss_cons (ds_setS (i := 2) sc__law_taken.nd rfl (Or.inl rfl) (de_op o_mod (de_ty c_int rfl T.b_int rfl (da_cons (de_row (j := 3) (pv 0)) (da_nil))) (de_var (pv 1))))
    (dss_cons (ds_row (j := 3) (pv 0) (de_op o_div (de_row (j := 3) (pv 0)) (de_var (pv 1))))
    (dss_one (ds_ret (de_var (pv 2))))))
    (dss_nil))
    (dss_cons (ds_row (j := 1) (pv 0) (de_op o_add (de_row (j := 1) (pv 0)) (de_int)))
    (dss_cons (ds_if (dt_cmp (o_gtA hr.units) (de_row (j := 1) (pv 0)) (de_rowLen T.b_len (pv 0)))
    (dss_cons (ds_row (j := 2) (pv 0) (de_op o_mod (de_ty c_int rfl T.b_int rfl (da_cons (de_op o_add (de_op o_mulI (de_row (j := 2) (pv 0)) (de_int)) (de_int)) (da_nil))) (de_int)))
    (dss_one (ds_ret (de_op o_mod (de_ty c_int rfl T.b_int rfl (da_cons (de_op o_div (de_row (j := 2) (pv 0)) (de_int)) (da_nil))) (de_var (pv 1))))))
    (dss_nil))
    (dss_cons (ds_setS (i := 3) sc__law_taken.nd rfl (Or.inl rfl) (de_rowCell (pv 0) (de_op o_sub (de_row (j := 1) (pv 0)) (de_int))))
    (dss_cons (ds_row (j := 2) (pv 0) (de_op o_mod (de_ty c_int rfl T.b_int rfl (da_cons (de_op o_add (de_op o_add (de_op o_mulI (de_row (j := 2) (pv 0)) (de_int)) (de_var (pv 3))) (de_int)) (da_nil))) (de_int)))
    (dss_cons (ds_if (dt_cmp (o_geA hr.units) (de_var (pv 3)) (de_op o_pow (de_int) (de_int)))
    (dss_one (ds_row (j := 3) (pv 0) (de_op o_div (de_var (pv 3)) (de_var (pv 1)))))
    (dss_nil))
    (dss_one (ds_ret (de_op o_mod (de_ty c_int rfl T.b_int rfl (da_cons (de_var (pv 3)) (da_nil))) (de_var (pv 1)))))))))))
/-! _law_pairs -/
abbrev s__law_pairs : Stmt := top 29
abbrev n__law_pairs : List Str := ["_law_n", "_law_found", "_law_x", "_law_y"]
theorem sc__law_pairs : FnScope n__law_pairs ["_law_n"] (defScope s__law_pairs) := ⟨rfl, rfl, rfl, by decide +kernel, rfl, by decide +kernel, by decide +kernel⟩
def b__law_pairs : SM :=
  sSeq (sSetS 1 (cLst (cLim (aNil))))
  (sSeq (sFor0 (iRange1 (aCons (cVar 0) (aNil))) (.nm 2)
  (sSetS 1 (cOp xAdd (cVar 1) (cLst (fComp [3] (.nm 3) (iRange2 (aCons (cOp xAdd (cVar 2) (cCon (.int 1))) (aCons (cVar 0) (aNil)))) (tYesM) (cTup (aCons (cVar 2) (aCons (cVar 3) (aNil)))))))))
  (sRet (cVar 1)))
def f__law_pairs : FM := runB 4 b__law_pairs
theorem ok__law_pairs (T : Txt K mg) (D0 : DefAt K mg "_law_pairs" s__law_pairs) : FnD P w K mg base Tb 1 "_law_pairs" 1 f__law_pairs :=
  fnD_of (ps := ["_law_n"]) (N := n__law_pairs) (nb := b__law_pairs) D0 sc__law_pairs (fun _ _ _ _ _ _ us hl => match us, hl with | [_], _ => rfl) (by decide) fun f cdv A outer s H E ra hr =>
    (dss_cons (ds_setS (i := 1) sc__law_pairs.nd rfl (Or.inl rfl) (de_fresh (df_lst (da_nil))))
    (dss_cons (ds_for0 (passes_of rfl) rfl (di0_range1 rfl T.b_range (da_cons (de_var (pv 0)) (da_nil))) (tgs_nm (pg_name (i := 2) sc__law_pairs.nd rfl (Or.inr rfl)))
    (dss_one (ds_setS (i := 1) sc__law_pairs.nd rfl (Or.inl rfl) (de_op o_add (de_var (pv 1)) (de_fresh (df_comp (own := [("_law_y", 3)]) rfl sc__law_pairs.nd (di_range2 rfl T.b_range (da_cons (de_op o_add (de_var (pv 2)) (de_int)) (da_cons (de_var (pv 0)) (da_nil)))) (blkOk_by (N := n__law_pairs) (sc := (defScope s__law_pairs)) (by decide +kernel)) (tgIn_nm (fun _ _ _ _ _ => pg_name (i := 3) sc__law_pairs.nd rfl (Or.inl rfl))) (by decide) (fun _ _ _ _ _ => dts_nil) (fun _ _ _ _ _ => de_tup (da_cons (de_var (pv 2)) (da_cons (de_var (pv 3)) (da_nil))))))))))
    (dss_one (ds_ret (de_var (pv 1))))))
/-! _law_hall -/
abbrev s__law_hall : Stmt := top 30
abbrev n__law_hall : List Str := ["_law_row", "_law_most", "_law_n", "_law_way", "_law_pairs_here", "_law_pair", "_law_x"]
theorem sc__law_hall : FnScope n__law_hall ["_law_row", "_law_most"] (defScope s__law_hall) := ⟨rfl, rfl, rfl, by decide +kernel, rfl, by decide +kernel, by decide +kernel⟩
def b__law_hall : SM :=
  sSeq (sUnp (.tp [2, 3, 4]) (gSh (cTup (aCons (cOp xAdd (cCon (.int 1)) (cCallN 2 f__law_taken (aCons (cVar 0) (aCons (cVar 1) (aNil))))) (aCons (cCallN 2 f__law_taken (aCons (cVar 0) (aCons (cCon (.int 6)) (aNil)))) (aCons (cLst (cLim (aNil))) (aNil)))))))
  (sSeq (sIf (cTest (cOp xLtA (cVar 3) (cCon (.int 3))))
  (sSetS 4 (cLst (fComp [5] (.nm 5) (iSeq (cCallN 1 f__law_pairs (aCons (cVar 2) (aNil)))) (cTest (cOp xLeA (cCallN 2 f__law_taken (aCons (cVar 0) (aCons (cCon (.int 4)) (aNil)))) (cVar 3))) (cVar 5))))
  (sIf (cTest (cOp xEq (cVar 3) (cCon (.int 3))))
  (sSetS 4 (cOp xAdd (cLst (fComp [6] (.nm 6) (iRange1 (aCons (cOp xSub (cVar 2) (cCon (.int 1))) (aNil))) (tYesM) (cTup (aCons (cVar 6) (aCons (cOp xAdd (cVar 6) (cCon (.int 1))) (aNil)))))) (cIf (cTest (cOp xGtA (cVar 2) (cCon (.int 2)))) (cLst (cLim (aCons (cTup (aCons (cCon (.int 0)) (aCons (cOp xSub (cVar 2) (cCon (.int 1))) (aNil)))) (aNil)))) (cLst (cLim (aNil))))))
  (sIf (cTest (cOp xEq (cVar 3) (cCon (.int 4))))
  (sSetS 4 (cLst (fComp [6] (.nm 6) (iRange2 (aCons (cCon (.int 1)) (aCons (cVar 2) (aNil)))) (tYesM) (cTup (aCons (cCallN 2 f__law_taken (aCons (cVar 0) (aCons (cVar 6) (aNil)))) (aCons (cVar 6) (aNil)))))))
  (sSetS 4 (cOp xAdd (cLst (fComp [6] (.nm 6) (iRange2 (aCons (cCon (.int 1)) (aCons (cVar 2) (aNil)))) (tYesM) (cTup (aCons (cCon (.int 0)) (aCons (cVar 6) (aNil)))))) (cLst (fComp [6] (.nm 6) (iRange2 (aCons (cCon (.int 1)) (aCons (cOp xSub (cVar 2) (cCon (.int 1))) (aNil)))) (cTest (cOp xEq (cCallN 2 f__law_taken (aCons (cVar 0) (aCons (cCon (.int 2)) (aNil)))) (cCon (.int 0)))) (cTup (aCons (cVar 6) (aCons (cOp xAdd (cVar 6) (cCon (.int 1))) (aNil)))))))))))
  (sRet (cTup (aCons (cVar 2) (aCons (cBlt xTuple (aCons (cLst (fBlt xSorted (aCons (cVar 4) (aNil)))) (aNil))) (aNil))))))
def f__law_hall : FM := runB 7 b__law_hall
theorem ok__law_hall (T : Txt K mg) (D0 : DefAt K mg "_law_hall" s__law_hall) (G__law_taken : FnD P w K mg base Tb 1 "_law_taken" 2 f__law_taken) (G__law_pairs : FnD P w K mg base Tb 1 "_law_pairs" 1 f__law_pairs) : FnD P w K mg base Tb 2 "_law_hall" 2 f__law_hall :=
  fnD_of (ps := ["_law_row", "_law_most"]) (N := n__law_hall) (nb := b__law_hall) D0 sc__law_hall (fun _ _ _ _ _ _ us hl => match us, hl with | [_, _], _ => rfl) (by decide) fun f cdv A outer s H E ra hr =>
    (dss_cons (ds_unp (dg_sh (de_tup (da_cons (de_op o_add (de_int) (de_callD G__law_taken (hr.mono (by decide)) (passX (takes_of rfl rfl rfl rfl)) (da_cons (de_var (pv 0)) (da_cons (de_var (pv 1)) (da_nil))))) (da_cons (de_callD G__law_taken (hr.mono (by decide)) (passX (takes_of rfl rfl rfl rfl)) (da_cons (de_var (pv 0)) (da_cons (de_int) (da_nil)))) (da_cons (de_fresh (df_lst (da_nil))) (da_nil)))))) (tgs_tp (is := [2, 3, 4]) rfl (NmsOk.cons (pg_name (i := 2) sc__law_hall.nd rfl (Or.inl rfl)) (NmsOk.cons (pg_name (i := 3) sc__law_hall.nd rfl (Or.inr rfl)) (NmsOk.cons (pg_name (i := 4) sc__law_hall.nd rfl (Or.inl rfl)) (NmsOk.nil) rfl) rfl) rfl)))
    (dss_cons (ds_if (dt_cmp (o_ltA hr.units) (de_var (pv 3)) (de_int))
    (dss_one (ds_asgFD (ps_comp (i := 4) (own := [("_law_pair", 5)]) rfl sc__law_hall.nd rfl rfl (sw_true rfl rfl rfl (by decide +kernel)) (di_seq (de_callD G__law_pairs (hr.mono (by decide)) (passX (takes_of rfl rfl rfl rfl)) (da_cons (de_var (pv 2)) (da_nil)))) (blkOk_by (N := n__law_hall) (sc := (defScope s__law_hall)) (by decide +kernel)) (tgIn_nm (fun _ _ _ _ _ => pg_name (i := 5) sc__law_hall.nd rfl (Or.inl rfl))) (by decide) (fun _ _ _ _ _ => dts_one (dt_cmp (o_leA hr.units) (de_callD G__law_taken (hr.mono (by decide)) passL (da_cons (de_var (pv 0)) (da_cons (de_int) (da_nil)))) (de_var (pv 3)))) (fun _ _ _ _ _ => de_var (pv 5)))))
    (dss_one (ds_if (dt_cmp (o_eq hr.units) (de_var (pv 3)) (de_int))
    (dss_one (ds_setS (i := 4) sc__law_hall.nd rfl (Or.inl rfl) (de_op o_add (de_fresh (df_comp (own := [("_law_x", 6)]) rfl sc__law_hall.nd (di_range1 rfl T.b_range (da_cons (de_op o_sub (de_var (pv 2)) (de_int)) (da_nil))) (blkOk_by (N := n__law_hall) (sc := (defScope s__law_hall)) (by decide +kernel)) (tgIn_nm (fun _ _ _ _ _ => pg_name (i := 6) sc__law_hall.nd rfl (Or.inl rfl))) (by decide) (fun _ _ _ _ _ => dts_nil) (fun _ _ _ _ _ => de_tup (da_cons (de_var (pv 6)) (da_cons (de_op o_add (de_var (pv 6)) (de_int)) (da_nil)))))) (de_if (dt_cmp (o_gtA hr.units) (de_var (pv 2)) (de_int)) (de_fresh (df_lst (da_cons (de_tup (da_cons (de_int) (da_cons (de_op o_sub (de_var (pv 2)) (de_int)) (da_nil)))) (da_nil)))) (de_fresh (df_lst (da_nil)))))))
    (dss_one (ds_if (dt_cmp (o_eq hr.units) (de_var (pv 3)) (de_int))
    (dss_one (ds_asgFD (ps_comp (i := 4) (own := [("_law_x", 6)]) rfl sc__law_hall.nd rfl rfl (sw_true rfl rfl rfl (by decide +kernel)) (di_range2 rfl T.b_range (da_cons (de_int) (da_cons (de_var (pv 2)) (da_nil)))) (blkOk_by (N := n__law_hall) (sc := (defScope s__law_hall)) (by decide +kernel)) (tgIn_nm (fun _ _ _ _ _ => pg_name (i := 6) sc__law_hall.nd rfl (Or.inl rfl))) (by decide) (fun _ _ _ _ _ => dts_nil) (fun _ _ _ _ _ => de_tup (da_cons (de_callD G__law_taken (hr.mono (by decide)) passL (da_cons (de_var (pv 0)) (da_cons (de_var (pv 6)) (da_nil)))) (da_cons (de_var (pv 6)) (da_nil)))))))
    (dss_one (ds_setS (i := 4) sc__law_hall.nd rfl (Or.inl rfl) (de_op o_add (de_fresh (df_comp (own := [("_law_x", 6)]) rfl sc__law_hall.nd (di_range2 rfl T.b_range (da_cons (de_int) (da_cons (de_var (pv 2)) (da_nil)))) (blkOk_by (N := n__law_hall) (sc := (defScope s__law_hall)) (by decide +kernel)) (tgIn_nm (fun _ _ _ _ _ => pg_name (i := 6) sc__law_hall.nd rfl (Or.inl rfl))) (by decide) (fun _ _ _ _ _ => dts_nil) (fun _ _ _ _ _ => de_tup (da_cons (de_int) (da_cons (de_var (pv 6)) (da_nil)))))) (de_fresh (df_comp (own := [("_law_x", 6)]) rfl sc__law_hall.nd (di_range2 rfl T.b_range (da_cons (de_int) (da_cons (de_op o_sub (de_var (pv 2)) (de_int)) (da_nil)))) (blkOk_by (N := n__law_hall) (sc := (defScope s__law_hall)) (by decide +kernel)) (tgIn_nm (fun _ _ _ _ _ => pg_name (i := 6) sc__law_hall.nd rfl (Or.inl rfl))) (by decide) (fun _ _ _ _ _ => dts_one (dt_cmp (o_eq hr.units) (de_callD G__law_taken (hr.mono (by decide)) passL (da_cons (de_var (pv 0)) (da_cons (de_int) (da_nil)))) (de_int))) (fun _ _ _ _ _ => de_tup (da_cons (de_var (pv 6)) (da_cons (de_op o_add (de_var (pv 6)) (de_int)) (da_nil))))))))))))))
    (dss_one (ds_ret (de_tup (da_cons (de_var (pv 2)) (da_cons (de_ty c_tuple rfl T.b_tuple rfl (da_cons (de_fresh (df_blt (c_sorted hr.units) rfl T.b_sorted rfl (da_cons (de_var (pv 4)) (da_nil)))) (da_nil))) (da_nil))))))))
/-! is_integer -/
abbrev s_is_integer : Stmt := top 7
abbrev n_is_integer : List Str := ["value"]
theorem sc_is_integer : FnScope n_is_integer ["value"] (defScope s_is_integer) := ⟨rfl, rfl, rfl, by decide +kernel, rfl, by decide +kernel, by decide +kernel⟩
def b_is_integer : SM :=
  sRet (cAndV (cIsi "int" (cVar 0)) (cNotV (cIsi "bool" (cVar 0))))
def f_is_integer : FM := runB 1 b_is_integer
theorem ok_is_integer (T : Txt K mg) (D0 : DefAt K mg "is_integer" s_is_integer) : FnD P w K mg base Tb 1 "is_integer" 1 f_is_integer :=
  fnD_of (ps := ["value"]) (N := n_is_integer) (nb := b_is_integer) D0 sc_is_integer (fun _ _ _ _ _ _ us hl => match us, hl with | [_], _ => rfl) (by decide) fun f cdv A outer s H E ra hr =>
    (dss_one (ds_ret (de_and (de_isi (T := "int") rfl T.b_isinstance rfl (de_var (pv 0)) rfl T.b_int rfl) (de_one (de_not (de_isi (T := "bool") rfl T.b_isinstance rfl (de_var (pv 0)) rfl T.b_bool rfl))))))
/-! is_from -/
abbrev s_is_from : Stmt := top 8
abbrev n_is_from : List Str := ["value", "low", "high"]
theorem sc_is_from : FnScope n_is_from ["value", "low", "high"] (defScope s_is_from) := ⟨rfl, rfl, rfl, by decide +kernel, rfl, by decide +kernel, by decide +kernel⟩
def b_is_from : SM :=
  sRet (cAndV (cCallN 1 f_is_integer (aCons (cVar 0) (aNil))) (cChain xLeA xLeA (cVar 1) (cVar 0) (cVar 2)))
def f_is_from : FM := runB 3 b_is_from
theorem ok_is_from (T : Txt K mg) (D0 : DefAt K mg "is_from" s_is_from) (G_is_integer : FnD P w K mg base Tb 1 "is_integer" 1 f_is_integer) : FnD P w K mg base Tb 2 "is_from" 3 f_is_from :=
  fnD_of (ps := ["value", "low", "high"]) (N := n_is_from) (nb := b_is_from) D0 sc_is_from (fun _ _ _ _ _ _ us hl => match us, hl with | [_, _, _], _ => rfl) (by decide) fun f cdv A outer s H E ra hr =>
    (dss_one (ds_ret (de_and (de_callD G_is_integer (hr.mono (by decide)) (passX (takes_of rfl rfl rfl rfl)) (da_cons (de_var (pv 0)) (da_nil))) (de_one (de_ch (o_leA hr.units) (o_leA hr.units) (de_var (pv 1)) (de_var (pv 0)) (de_var (pv 2)))))))
/-! is_pair_of -/
abbrev s_is_pair_of : Stmt := top 9
abbrev n_is_pair_of : List Str := ["n", "value", "part"]
theorem sc_is_pair_of : FnScope n_is_pair_of ["n", "value"] (defScope s_is_pair_of) := ⟨rfl, rfl, rfl, by decide +kernel, rfl, by decide +kernel, by decide +kernel⟩
def b_is_pair_of : SM :=
  sSeq (sIf (cOr (cNot (cTest (cIsi "tuple" (cVar 1)))) (cOr (cTest (cOp xNe (cBlt xLen (aCons (cVar 1) (aNil))) (cCon (.int 2)))) (cNot (cTest (cBlt xAll (aCons (cLst (fComp [2] (.nm 2) (iSeq (cVar 1)) (tYesM) (cCallN 3 f_is_from (aCons (cVar 2) (aCons (cCon (.int 0)) (aCons (cOp xSub (cVar 0) (cCon (.int 1))) (aNil))))))) (aNil)))))))
  (sRet (cCon (.bl false)))
  (sNop))
  (sRet (cOp xLtA (cOp xIx (cVar 1) (cCon (.int 0))) (cOp xIx (cVar 1) (cCon (.int 1)))))
def f_is_pair_of : FM := runB 3 b_is_pair_of
theorem ok_is_pair_of (T : Txt K mg) (D0 : DefAt K mg "is_pair_of" s_is_pair_of) (G_is_from : FnD P w K mg base Tb 2 "is_from" 3 f_is_from) : FnD P w K mg base Tb 3 "is_pair_of" 2 f_is_pair_of :=
  fnD_of (ps := ["n", "value"]) (N := n_is_pair_of) (nb := b_is_pair_of) D0 sc_is_pair_of (fun _ _ _ _ _ _ us hl => match us, hl with | [_, _], _ => rfl) (by decide) fun f cdv A outer s H E ra hr =>
    (dss_cons (ds_if (dt_w (dw_or (dt_not (dt_val (de_isi (T := "tuple") rfl T.b_isinstance rfl (de_var (pv 1)) rfl T.b_tuple rfl))) (dw_or (dt_cmp (o_ne hr.units) (de_blt c_len rfl T.b_len rfl (da_cons (de_var (pv 1)) (da_nil))) (de_int)) (dw_or1 (dt_not (dt_val (de_blt (c_all rfl) rfl T.b_all rfl (da_cons (de_fresh (df_comp (own := [("part", 2)]) rfl sc_is_pair_of.nd (di_seq (de_var (pv 1))) (blkOk_by (N := n_is_pair_of) (sc := (defScope s_is_pair_of)) (by decide +kernel)) (tgIn_nm (fun _ _ _ _ _ => pg_name (i := 2) sc_is_pair_of.nd rfl (Or.inl rfl))) (by decide) (fun _ _ _ _ _ => dts_nil) (fun _ _ _ _ _ => de_callD G_is_from (hr.mono (by decide)) passL (da_cons (de_var (pv 2)) (da_cons (de_int) (da_cons (de_op o_sub (de_var (pv 0)) (de_int)) (da_nil))))))) (da_nil)))))))))
    (dss_one (ds_ret (de_bl)))
    (dss_nil))
    (dss_one (ds_ret (de_cmp (o_ltA hr.units) (de_ix i_seq (de_var (pv 1)) (de_int)) (de_ix i_seq (de_var (pv 1)) (de_int))))))
/-! is_hall -/
abbrev s_is_hall : Stmt := top 10
abbrev n_is_hall : List Str := ["value", "n", "pairs", "pair", "one", "other"]
theorem sc_is_hall : FnScope n_is_hall ["value"] (defScope s_is_hall) := ⟨rfl, rfl, rfl, by decide +kernel, rfl, by decide +kernel, by decide +kernel⟩
def b_is_hall : SM :=
  sSeq (sIf (cOr (cNot (cTest (cIsi "tuple" (cVar 0)))) (cOr (cTest (cOp xNe (cBlt xLen (aCons (cVar 0) (aNil))) (cCon (.int 2)))) (cNot (cTest (cCallN 3 f_is_from (aCons (cOp xIx (cVar 0) (cCon (.int 0))) (aCons (cCon (.int 1)) (aCons (cCon (.int 8)) (aNil)))))))))
  (sRet (cCon (.bl false)))
  (sNop))
  (sSeq (sUnp (.tp [1, 2]) (gSh (cVar 0)))
  (sSeq (sIf (cOr (cNot (cTest (cIsi "tuple" (cVar 2)))) (cNot (cTest (cBlt xAll (aCons (cLst (fComp [3] (.nm 3) (iSeq (cVar 2)) (tYesM) (cCallN 2 f_is_pair_of (aCons (cVar 1) (aCons (cVar 3) (aNil)))))) (aNil))))))
  (sRet (cCon (.bl false)))
  (sNop))
  (sRet (cBlt xAll (aCons (cLst (fComp [4, 5] (.tp [4, 5]) (iZipM (aCons (cVar 2) (aCons (cSl xSlT (cVar 2) (pIt (cCon (.int 1))) (pNo)) (aNil)))) (tYesM) (cOp xLtA (cVar 4) (cVar 5)))) (aNil))))))
def f_is_hall : FM := runB 6 b_is_hall
theorem ok_is_hall (T : Txt K mg) (D0 : DefAt K mg "is_hall" s_is_hall) (G_is_from : FnD P w K mg base Tb 2 "is_from" 3 f_is_from) (G_is_pair_of : FnD P w K mg base Tb 3 "is_pair_of" 2 f_is_pair_of) : FnD P w K mg base Tb 4 "is_hall" 1 f_is_hall :=
  fnD_of (ps := ["value"]) (N := n_is_hall) (nb := b_is_hall) D0 sc_is_hall (fun _ _ _ _ _ _ us hl => match us, hl with | [_], _ => rfl) (by decide) fun f cdv A outer s H E ra hr =>
    (dss_cons (ds_if (dt_w (dw_or (dt_not (dt_val (de_isi (T := "tuple") rfl T.b_isinstance rfl (de_var (pv 0)) rfl T.b_tuple rfl))) (dw_or (dt_cmp (o_ne hr.units) (de_blt c_len rfl T.b_len rfl (da_cons (de_var (pv 0)) (da_nil))) (de_int)) (dw_or1 (dt_not (dt_val (de_callD G_is_from (hr.mono (by decide)) (passX (takes_of rfl rfl rfl rfl)) (da_cons (de_ix i_seq (de_var (pv 0)) (de_int)) (da_cons (de_int) (da_cons (de_gint rfl T.c_MOST_PEOPLE) (da_nil)))))))))))
    (dss_one (ds_ret (de_bl)))
    (dss_nil))
    (dss_cons (ds_unp (dg_sh (de_var (pv 0))) (tgs_tp (is := [1, 2]) rfl (NmsOk.cons (pg_name (i := 1) sc_is_hall.nd rfl (Or.inr rfl)) (NmsOk.cons (pg_name (i := 2) sc_is_hall.nd rfl (Or.inl rfl)) (NmsOk.nil) rfl) rfl)))
    (dss_cons (ds_if (dt_w (dw_or (dt_not (dt_val (de_isi (T := "tuple") rfl T.b_isinstance rfl (de_var (pv 2)) rfl T.b_tuple rfl))) (dw_or1 (dt_not (dt_val (de_blt (c_all rfl) rfl T.b_all rfl (da_cons (de_fresh (df_comp (own := [("pair", 3)]) rfl sc_is_hall.nd (di_seq (de_var (pv 2))) (blkOk_by (N := n_is_hall) (sc := (defScope s_is_hall)) (by decide +kernel)) (tgIn_nm (fun _ _ _ _ _ => pg_name (i := 3) sc_is_hall.nd rfl (Or.inl rfl))) (by decide) (fun _ _ _ _ _ => dts_nil) (fun _ _ _ _ _ => de_callD G_is_pair_of (hr.mono (by decide)) passL (da_cons (de_var (pv 1)) (da_cons (de_var (pv 3)) (da_nil)))))) (da_nil))))))))
    (dss_one (ds_ret (de_bl)))
    (dss_nil))
    (dss_one (ds_ret (de_blt (c_all rfl) rfl T.b_all rfl (da_cons (de_fresh (df_comp (own := [("one", 4), ("other", 5)]) rfl sc_is_hall.nd (di_zip rfl T.b_zip (da_cons (de_var (pv 2)) (da_cons (de_sl s_tup (de_var (pv 2)) (dp_it (de_int)) (dp_no)) (da_nil)))) (blkOk_by (N := n_is_hall) (sc := (defScope s_is_hall)) (by decide +kernel)) (tgIn_tp rfl (fun _ _ _ _ _ => NmsOk.cons (pg_name (i := 4) sc_is_hall.nd rfl (Or.inl rfl)) (NmsOk.cons (pg_name (i := 5) sc_is_hall.nd rfl (Or.inl rfl)) (NmsOk.nil) rfl) rfl)) (by decide) (fun _ _ _ _ _ => dts_nil) (fun _ _ _ _ _ => de_cmp (o_ltA hr.units) (de_var (pv 4)) (de_var (pv 5))))) (da_nil))))))))
/-! need_hall -/
abbrev s_need_hall : Stmt := top 11
abbrev n_need_hall : List Str := ["value"]
theorem sc_need_hall : FnScope n_need_hall ["value"] (defScope s_need_hall) := ⟨rfl, rfl, rfl, by decide +kernel, rfl, by decide +kernel, by decide +kernel⟩
def b_need_hall : SM :=
  sIf (cNot (cTest (cCallN 1 f_is_hall (aCons (cVar 0) (aNil)))))
  (sStuck)
  (sNop)
def f_need_hall : FM := runB 1 b_need_hall
theorem ok_need_hall (T : Txt K mg) (D0 : DefAt K mg "need_hall" s_need_hall) (G_is_hall : FnD P w K mg base Tb 4 "is_hall" 1 f_is_hall) : FnD P w K mg base Tb 5 "need_hall" 1 f_need_hall :=
  fnD_of (ps := ["value"]) (N := n_need_hall) (nb := b_need_hall) D0 sc_need_hall (fun _ _ _ _ _ _ us hl => match us, hl with | [_], _ => rfl) (by decide) fun f cdv A outer s H E ra hr =>
    (dss_one (ds_if (dt_not (dt_val (de_callD G_is_hall (hr.mono (by decide)) (passX (takes_of rfl rfl rfl rfl)) (da_cons (de_var (pv 0)) (da_nil)))))
    (dss_one (ds_never))
    (dss_nil)))
/-! are_pair -/
abbrev s_are_pair : Stmt := top 13
abbrev n_are_pair : List Str := ["hall", "x", "y"]
theorem sc_are_pair : FnScope n_are_pair ["hall", "x", "y"] (defScope s_are_pair) := ⟨rfl, rfl, rfl, by decide +kernel, rfl, by decide +kernel, by decide +kernel⟩
def b_are_pair : SM :=
  sRet (cOp (xInA false) (cTup (aCons (cBlt xMin2 (aCons (cVar 1) (aCons (cVar 2) (aNil)))) (aCons (cBlt xMax2 (aCons (cVar 1) (aCons (cVar 2) (aNil)))) (aNil)))) (cOp xIx (cVar 0) (cCon (.int 1))))
def f_are_pair : FM := runB 3 b_are_pair
theorem ok_are_pair (T : Txt K mg) (D0 : DefAt K mg "are_pair" s_are_pair) : FnD P w K mg base Tb 1 "are_pair" 3 f_are_pair :=
  fnD_of (ps := ["hall", "x", "y"]) (N := n_are_pair) (nb := b_are_pair) D0 sc_are_pair (fun _ _ _ _ _ _ us hl => match us, hl with | [_, _, _], _ => rfl) (by decide) fun f cdv A outer s H E ra hr =>
    (dss_one (ds_ret (de_cmp (o_inA (hu65 hr)) (de_tup (da_cons (de_blt (c_min2 rfl) rfl T.b_min rfl (da_cons (de_var (pv 1)) (da_cons (de_var (pv 2)) (da_nil)))) (da_cons (de_blt (c_max2 rfl) rfl T.b_max rfl (da_cons (de_var (pv 1)) (da_cons (de_var (pv 2)) (da_nil)))) (da_nil)))) (de_ix i_seq (de_var (pv 0)) (de_int)) (by with_unfolding_all rfl))))
/-! friends_of -/
abbrev s_friends_of : Stmt := top 14
abbrev n_friends_of : List Str := ["hall", "x", "y"]
theorem sc_friends_of : FnScope n_friends_of ["hall", "x"] (defScope s_friends_of) := ⟨rfl, rfl, rfl, by decide +kernel, rfl, by decide +kernel, by decide +kernel⟩
def b_friends_of : SM :=
  sRet (cLst (fComp [2] (.nm 2) (iRange1 (aCons (cOp xIx (cVar 0) (cCon (.int 0))) (aNil))) (cTest (cCallN 3 f_are_pair (aCons (cVar 0) (aCons (cVar 1) (aCons (cVar 2) (aNil)))))) (cVar 2)))
def f_friends_of : FM := runB 3 b_friends_of
theorem ok_friends_of (T : Txt K mg) (D0 : DefAt K mg "friends_of" s_friends_of) (G_are_pair : FnD P w K mg base Tb 1 "are_pair" 3 f_are_pair) : FnD P w K mg base Tb 2 "friends_of" 2 f_friends_of :=
  fnD_of (ps := ["hall", "x"]) (N := n_friends_of) (nb := b_friends_of) D0 sc_friends_of (fun _ _ _ _ _ _ us hl => match us, hl with | [_, _], _ => rfl) (by decide) fun f cdv A outer s H E ra hr =>
    (dss_one (ds_ret (de_fresh (df_comp (own := [("y", 2)]) rfl sc_friends_of.nd (di_range1 rfl T.b_range (da_cons (de_ix i_seq (de_var (pv 0)) (de_int)) (da_nil))) (blkOk_by (N := n_friends_of) (sc := (defScope s_friends_of)) (by decide +kernel)) (tgIn_nm (fun _ _ _ _ _ => pg_name (i := 2) sc_friends_of.nd rfl (Or.inl rfl))) (by decide) (fun _ _ _ _ _ => dts_one (dt_val (de_callD G_are_pair (hr.mono (by decide)) passL (da_cons (de_var (pv 0)) (da_cons (de_var (pv 1)) (da_cons (de_var (pv 2)) (da_nil))))))) (fun _ _ _ _ _ => de_var (pv 2))))))
/-! step_for -/
abbrev s_step_for : Stmt := top 18
abbrev n_step_for : List Str := ["hall", "x", "here", "y", "own", "z"]
theorem sc_step_for : FnScope n_step_for ["hall", "x", "here"] (defScope s_step_for) := ⟨rfl, rfl, rfl, by decide +kernel, rfl, by decide +kernel, by decide +kernel⟩
def b_step_for : SM :=
  sSeq (sSetS 4 (cLst (fComp [3] (.nm 3) (iSeq (cCallN 2 f_friends_of (aCons (cVar 0) (aCons (cVar 1) (aNil))))) (cTest (cOp (xInA false) (cVar 3) (cVar 2))) (cVar 3))))
  (sSeq (sIf (cTest (cOp xEq (cVar 4) (cLst (cLim (aNil)))))
  (sRet (cTup (aCons (cCon (.str "alone")) (aCons (cVar 1) (aNil)))))
  (sNop))
  (sSeq (sIf (cTest (cOp xEq (cBlt xLen (aCons (cVar 4) (aNil))) (cCon (.int 1))))
  (sRet (cTup (aCons (cCon (.str "leaf")) (aCons (cVar 1) (aCons (cOp xIx (cVar 4) (cCon (.int 0))) (aNil))))))
  (sNop))
  (sSeq (sFor [] (iSeq (cVar 2)) (.nm 3)
  (sIf (cAnd (cTest (cOp xNe (cVar 3) (cVar 1))) (cTest (cOp xEq (cLst (fComp [5] (.nm 5) (iSeq (cVar 4)) (cTest (cOp xNe (cVar 5) (cVar 3))) (cVar 5))) (cLst (fComp [5] (.nm 5) (iSeq (cCallN 2 f_friends_of (aCons (cVar 0) (aCons (cVar 3) (aNil))))) (cAnd (cTest (cOp (xInA false) (cVar 5) (cVar 2))) (cTest (cOp xNe (cVar 5) (cVar 1)))) (cVar 5))))))
  (sRet (cTup (aCons (cCon (.str "twin")) (aCons (cVar 1) (aCons (cVar 3) (aCons (cIf (cTest (cOp (xInA false) (cVar 3) (cVar 4))) (cCon (.str "friend")) (cCon (.str "stranger"))) (aNil)))))))
  (sNop)))
  (sRet (cCon .non)))))
def f_step_for : FM := runB 6 b_step_for
theorem ok_step_for (T : Txt K mg) (D0 : DefAt K mg "step_for" s_step_for) (G_friends_of : FnD P w K mg base Tb 2 "friends_of" 2 f_friends_of) : FnD P w K mg base Tb 3 "step_for" 3 f_step_for :=
  fnD_of (ps := ["hall", "x", "here"]) (N := n_step_for) (nb := b_step_for) D0 sc_step_for (fun _ _ _ _ _ _ us hl => match us, hl with | [_, _, _], _ => rfl) (by decide) fun f cdv A outer s H E ra hr =>
    (dss_cons (ds_asgFD (ps_comp (i := 4) (own := [("y", 3)]) rfl sc_step_for.nd rfl rfl (sw_true rfl rfl rfl (by decide +kernel)) (di_seq (de_callD G_friends_of (hr.mono (by decide)) (passX (takes_of rfl rfl rfl rfl)) (da_cons (de_var (pv 0)) (da_cons (de_var (pv 1)) (da_nil))))) (blkOk_by (N := n_step_for) (sc := (defScope s_step_for)) (by decide +kernel)) (tgIn_nm (fun _ _ _ _ _ => pg_name (i := 3) sc_step_for.nd rfl (Or.inl rfl))) (by decide) (fun _ _ _ _ _ => dts_one (dt_cmp (o_inA (hu65 hr)) (de_var (pv 3)) (de_var (pv 2)) (by with_unfolding_all rfl))) (fun _ _ _ _ _ => de_var (pv 3))))
    (dss_cons (ds_if (dt_cmp (o_eq hr.units) (de_var (pv 4)) (de_fresh (df_lst (da_nil))))
    (dss_one (ds_ret (de_tup (da_cons (de_str) (da_cons (de_var (pv 1)) (da_nil))))))
    (dss_nil))
    (dss_cons (ds_if (dt_cmp (o_eq hr.units) (de_blt c_len rfl T.b_len rfl (da_cons (de_var (pv 4)) (da_nil))) (de_int))
    (dss_one (ds_ret (de_tup (da_cons (de_str) (da_cons (de_var (pv 1)) (da_cons (de_ix i_seq (de_var (pv 4)) (de_int)) (da_nil)))))))
    (dss_nil))
    (dss_cons (ds_for [] (passes_of rfl) rfl (di_seq (de_var (pv 2))) (tgs_nm (pg_name (i := 3) sc_step_for.nd rfl (Or.inr rfl)))
    (dss_one (ds_if (dt_w (dw_and (dt_cmp (o_ne hr.units) (de_var (pv 3)) (de_var (pv 1))) (dw_and1 (dt_cmp (o_eq hr.units) (de_fresh (df_comp (own := [("z", 5)]) rfl sc_step_for.nd (di_seq (de_var (pv 4))) (blkOk_by (N := n_step_for) (sc := (defScope s_step_for)) (by decide +kernel)) (tgIn_nm (fun _ _ _ _ _ => pg_name (i := 5) sc_step_for.nd rfl (Or.inl rfl))) (by decide) (fun _ _ _ _ _ => dts_one (dt_cmp (o_ne hr.units) (de_var (pv 5)) (de_var (pv 3)))) (fun _ _ _ _ _ => de_var (pv 5)))) (de_fresh (df_comp (own := [("z", 5)]) rfl sc_step_for.nd (di_seq (de_callD G_friends_of (hr.mono (by decide)) (passX (takes_of rfl rfl rfl rfl)) (da_cons (de_var (pv 0)) (da_cons (de_var (pv 3)) (da_nil))))) (blkOk_by (N := n_step_for) (sc := (defScope s_step_for)) (by decide +kernel)) (tgIn_nm (fun _ _ _ _ _ => pg_name (i := 5) sc_step_for.nd rfl (Or.inl rfl))) (by decide) (fun _ _ _ _ _ => dts_one (dt_w (dw_and (dt_cmp (o_inA (hu65 hr)) (de_var (pv 5)) (de_var (pv 2)) (by with_unfolding_all rfl)) (dw_and1 (dt_cmp (o_ne hr.units) (de_var (pv 5)) (de_var (pv 1))))))) (fun _ _ _ _ _ => de_var (pv 5))))))))
    (dss_one (ds_ret (de_tup (da_cons (de_str) (da_cons (de_var (pv 1)) (da_cons (de_var (pv 3)) (da_cons (de_if (dt_cmp (o_inA (hu65 hr)) (de_var (pv 3)) (de_var (pv 4)) (by with_unfolding_all rfl)) (de_str) (de_str)) (da_nil))))))))
    (dss_nil))))
    (dss_one (ds_ret (de_non)))))))
/-! steps_of -/
abbrev s_steps_of : Stmt := top 19
abbrev n_steps_of : List Str := ["hall", "here", "found", "told", "some", "x", "step"]
theorem sc_steps_of : FnScope n_steps_of ["hall"] (defScope s_steps_of) := ⟨rfl, rfl, rfl, by decide +kernel, rfl, by decide +kernel, by decide +kernel⟩
def b_steps_of : SM :=
  sSeq (sPar [1, 2] (xO (fRg1 (cOp xIx (cVar 0) (cCon (.int 0)))) (xO (cLim (aNil)) (xNil))))
  (sSeq (whlL (cTest (cOp xGtA (cBlt xLen (aCons (cVar 1) (aNil))) (cCon (.int 1))))
  (sSeq (sOwn 3 (fComp [5] (.nm 5) (iRevM (cVar 1)) (tYesM) (cCallN 3 f_step_for (aCons (cVar 0) (aCons (cVar 5) (aCons (cVar 1) (aNil)))))))
  (sSeq (sOwn 4 (fComp [6] (.nm 6) (iSeq (cVar 3)) (cTest (cOp xNotA (cVar 6) (cCon .non))) (cVar 6)))
  (sSeq (sIf (cTest (cOp xEq (cVar 4) (cLst (cLim (aNil)))))
  (sRet (cCon .non))
  (sNop))
  (sSeq (sExprG (gAppend 2 (gPure (cOp xIx (cVar 4) (cCon (.int 0))))))
  (sExprG (gRemI 1 (cOp xIx (cOp xIx (cVar 4) (cCon (.int 0))) (cCon (.int 1))))))))) 5000)
  (sRet (cOp xAdd (cLst (cLim (aCons (cTup (aCons (cCon (.str "alone")) (aCons (cOp xIx (cVar 1) (cCon (.int 0))) (aNil)))) (aNil)))) (cLst (fRev (cVar 2))))))
def f_steps_of : FM := runB 7 b_steps_of
theorem ok_steps_of (T : Txt K mg) (D0 : DefAt K mg "steps_of" s_steps_of) (G_step_for : FnD P w K mg base Tb 3 "step_for" 3 f_step_for) : FnD P w K mg base Tb 4 "steps_of" 1 f_steps_of :=
  fnD_of (ps := ["hall"]) (N := n_steps_of) (nb := b_steps_of) D0 sc_steps_of (fun _ _ _ _ _ _ us hl => match us, hl with | [_], _ => rfl) (by decide) fun f cdv A outer s H E ra hr =>
    (dss_cons (ds_parG (is := [1, 2]) rfl (NmsOk.cons (pg_name (i := 1) sc_steps_of.nd rfl (Or.inr rfl)) (NmsOk.cons (pg_name (i := 2) sc_steps_of.nd rfl (Or.inl rfl)) (NmsOk.nil) rfl) rfl) (dx_O (df_rg1 rfl rfl T.b_list rfl T.b_range (de_ix i_seq (de_var (pv 0)) (de_int))) (dx_O (df_lst (da_nil)) (dx_nil))))
    (dss_cons (ds_while 5000 (passes_of rfl) (dt_cmp (o_gtA hr.units) (de_blt c_len rfl T.b_len rfl (da_cons (de_var (pv 1)) (da_nil))) (de_int))
    (dss_cons (ds_asgF (ps_comp (i := 3) (own := [("x", 5)]) rfl sc_steps_of.nd rfl rfl (sw_true rfl rfl rfl (by decide +kernel)) (di_rev rfl T.b_reversed (de_var (pv 1))) (blkOk_by (N := n_steps_of) (sc := (defScope s_steps_of)) (by decide +kernel)) (tgIn_nm (fun _ _ _ _ _ => pg_name (i := 5) sc_steps_of.nd rfl (Or.inl rfl))) (by decide) (fun _ _ _ _ _ => dts_nil) (fun _ _ _ _ _ => de_callD G_step_for (hr.mono (by decide)) passL (da_cons (de_var (pv 0)) (da_cons (de_var (pv 5)) (da_cons (de_var (pv 1)) (da_nil)))))))
    (dss_cons (ds_asgF (ps_comp (i := 4) (own := [("step", 6)]) rfl sc_steps_of.nd rfl rfl (sw_true rfl rfl rfl (by decide +kernel)) (di_seq (de_var (pv 3))) (blkOk_by (N := n_steps_of) (sc := (defScope s_steps_of)) (by decide +kernel)) (tgIn_nm (fun _ _ _ _ _ => pg_name (i := 6) sc_steps_of.nd rfl (Or.inl rfl))) (by decide) (fun _ _ _ _ _ => dts_one (dt_cmp o_notA (de_var (pv 6)) (de_non))) (fun _ _ _ _ _ => de_var (pv 6))))
    (dss_cons (ds_if (dt_cmp (o_eq hr.units) (de_var (pv 4)) (de_fresh (df_lst (da_nil))))
    (dss_one (ds_ret (de_non)))
    (dss_nil))
    (dss_cons (ds_exprG (dg_append (pv 2) (dg_pure (de_ix i_seq (de_var (pv 4)) (de_int)))))
    (dss_one (ds_exprG (dg_remI (pv 1) (de_ix i_seq (de_ix i_seq (de_var (pv 4)) (de_int)) (de_int))))))))))
    (dss_one (ds_ret (de_op o_add (de_fresh (df_lst (da_cons (de_tup (da_cons (de_str) (da_cons (de_ix i_seq (de_var (pv 1)) (de_int)) (da_nil)))) (da_nil)))) (de_fresh (df_rev (de_var (pv 2)))))))))
/-! is_grown -/
abbrev s_is_grown : Stmt := top 20
abbrev n_is_grown : List Str := ["hall"]
theorem sc_is_grown : FnScope n_is_grown ["hall"] (defScope s_is_grown) := ⟨rfl, rfl, rfl, by decide +kernel, rfl, by decide +kernel, by decide +kernel⟩
def b_is_grown : SM :=
  sSeq (sExpr (cCallN 1 f_need_hall (aCons (cVar 0) (aNil))))
  (sRet (cOp xNotA (cCallN 1 f_steps_of (aCons (cVar 0) (aNil))) (cCon .non)))
def f_is_grown : FM := runB 1 b_is_grown
theorem ok_is_grown (T : Txt K mg) (D0 : DefAt K mg "is_grown" s_is_grown) (G_need_hall : FnD P w K mg base Tb 5 "need_hall" 1 f_need_hall) (G_steps_of : FnD P w K mg base Tb 4 "steps_of" 1 f_steps_of) : FnD P w K mg base Tb 6 "is_grown" 1 f_is_grown :=
  fnD_of (ps := ["hall"]) (N := n_is_grown) (nb := b_is_grown) D0 sc_is_grown (fun _ _ _ _ _ _ us hl => match us, hl with | [_], _ => rfl) (by decide) fun f cdv A outer s H E ra hr =>
    (dss_cons (ds_expr (de_callD G_need_hall (hr.mono (by decide)) (passX (takes_of rfl rfl rfl rfl)) (da_cons (de_var (pv 0)) (da_nil))))
    (dss_one (ds_ret (de_cmp o_notA (de_callD G_steps_of (hr.mono (by decide)) (passX (takes_of rfl rfl rfl rfl)) (da_cons (de_var (pv 0)) (da_nil))) (de_non)))))
/-! _law_is -/
abbrev s__law_is : Stmt := top 34
abbrev n__law_is : List Str := ["_law_found", "_law_due"]
theorem sc__law_is : FnScope n__law_is ["_law_found", "_law_due"] (defScope s__law_is) := ⟨rfl, rfl, rfl, by decide +kernel, rfl, by decide +kernel, by decide +kernel⟩
def b__law_is : SM :=
  sRet (cAndV (cIsi "bool" (cVar 0)) (cOp xEq (cVar 0) (cVar 1)))
def f__law_is : FM := runB 2 b__law_is
theorem ok__law_is (T : Txt K mg) (D0 : DefAt K mg "_law_is" s__law_is) : FnD P w K mg base Tb 1 "_law_is" 2 f__law_is :=
  fnD_of (ps := ["_law_found", "_law_due"]) (N := n__law_is) (nb := b__law_is) D0 sc__law_is (fun _ _ _ _ _ _ us hl => match us, hl with | [_, _], _ => rfl) (by decide) fun f cdv A outer s H E ra hr =>
    (dss_one (ds_ret (de_and (de_isi (T := "bool") rfl T.b_isinstance rfl (de_var (pv 0)) rfl T.b_bool rfl) (de_one (de_cmp (o_eq hr.units) (de_var (pv 0)) (de_var (pv 1)))))))
/-! _law_friends -/
abbrev s__law_friends : Stmt := top 31
abbrev n__law_friends : List Str := ["_law_hall_here", "_law_x", "_law_y"]
theorem sc__law_friends : FnScope n__law_friends ["_law_hall_here", "_law_x"] (defScope s__law_friends) := ⟨rfl, rfl, rfl, by decide +kernel, rfl, by decide +kernel, by decide +kernel⟩
def b__law_friends : SM :=
  sRet (cLst (fComp [2] (.nm 2) (iRange1 (aCons (cOp xIx (cVar 0) (cCon (.int 0))) (aNil))) (cTest (cOp (xInA false) (cTup (aCons (cBlt xMin2 (aCons (cVar 1) (aCons (cVar 2) (aNil)))) (aCons (cBlt xMax2 (aCons (cVar 1) (aCons (cVar 2) (aNil)))) (aNil)))) (cOp xIx (cVar 0) (cCon (.int 1))))) (cVar 2)))
def f__law_friends : FM := runB 3 b__law_friends
theorem ok__law_friends (T : Txt K mg) (D0 : DefAt K mg "_law_friends" s__law_friends) : FnD P w K mg base Tb 1 "_law_friends" 2 f__law_friends :=
  fnD_of (ps := ["_law_hall_here", "_law_x"]) (N := n__law_friends) (nb := b__law_friends) D0 sc__law_friends (fun _ _ _ _ _ _ us hl => match us, hl with | [_, _], _ => rfl) (by decide) fun f cdv A outer s H E ra hr =>
    (dss_one (ds_ret (de_fresh (df_comp (own := [("_law_y", 2)]) rfl sc__law_friends.nd (di_range1 rfl T.b_range (da_cons (de_ix i_seq (de_var (pv 0)) (de_int)) (da_nil))) (blkOk_by (N := n__law_friends) (sc := (defScope s__law_friends)) (by decide +kernel)) (tgIn_nm (fun _ _ _ _ _ => pg_name (i := 2) sc__law_friends.nd rfl (Or.inl rfl))) (by decide) (fun _ _ _ _ _ => dts_one (dt_cmp (o_inA (hu65 hr)) (de_tup (da_cons (de_blt (c_min2 rfl) rfl T.b_min rfl (da_cons (de_var (pv 1)) (da_cons (de_var (pv 2)) (da_nil)))) (da_cons (de_blt (c_max2 rfl) rfl T.b_max rfl (da_cons (de_var (pv 1)) (da_cons (de_var (pv 2)) (da_nil)))) (da_nil)))) (de_ix i_seq (de_var (pv 0)) (de_int)) (by with_unfolding_all rfl))) (fun _ _ _ _ _ => de_var (pv 2))))))
/-! _law_turn -/
abbrev s__law_turn : Stmt := top 32
abbrev n__law_turn : List Str := ["_law_hall_here", "_law_x", "_law_near", "_law_pairs_here", "_law_pair"]
theorem sc__law_turn : FnScope n__law_turn ["_law_hall_here", "_law_x"] (defScope s__law_turn) := ⟨rfl, rfl, rfl, by decide +kernel, rfl, by decide +kernel, by decide +kernel⟩
def b__law_turn : SM :=
  sSeq (sPar [2, 3] (xS (cCallN 2 f__law_friends (aCons (cVar 0) (aCons (cVar 1) (aNil)))) (xO (cLim (aNil)) (xNil))))
  (sSeq (sFor [] (iSeq (cCallN 1 f__law_pairs (aCons (cOp xIx (cVar 0) (cCon (.int 0))) (aNil)))) (.nm 4)
  (sIf (cTest (cOp xNe (cOp (xInA false) (cVar 4) (cOp xIx (cVar 0) (cCon (.int 1)))) (cAndV (cOp (xInA false) (cOp xIx (cVar 4) (cCon (.int 0))) (cVar 2)) (cOp (xInA false) (cOp xIx (cVar 4) (cCon (.int 1))) (cVar 2)))))
  (sExprG (gAppend 3 (gSh (cVar 4))))
  (sNop)))
  (sRet (cTup (aCons (cOp xIx (cVar 0) (cCon (.int 0))) (aCons (cBlt xTuple (aCons (cVar 3) (aNil))) (aNil))))))
def f__law_turn : FM := runB 5 b__law_turn
theorem ok__law_turn (T : Txt K mg) (D0 : DefAt K mg "_law_turn" s__law_turn) (G__law_friends : FnD P w K mg base Tb 1 "_law_friends" 2 f__law_friends) (G__law_pairs : FnD P w K mg base Tb 1 "_law_pairs" 1 f__law_pairs) : FnD P w K mg base Tb 2 "_law_turn" 2 f__law_turn :=
  fnD_of (ps := ["_law_hall_here", "_law_x"]) (N := n__law_turn) (nb := b__law_turn) D0 sc__law_turn (fun _ _ _ _ _ _ us hl => match us, hl with | [_, _], _ => rfl) (by decide) fun f cdv A outer s H E ra hr =>
    (dss_cons (ds_par2 (i := 2) (j := 3) rfl sc__law_turn.nd rfl rfl rfl rfl (dx_S (de_callD G__law_friends (hr.mono (by decide)) (passX (takes_of rfl rfl rfl rfl)) (da_cons (de_var (pv 0)) (da_cons (de_var (pv 1)) (da_nil)))) (dx_O (df_lst (da_nil)) (dx_nil))))
    (dss_cons (ds_for [] (passes_of rfl) rfl (di_seq (de_callD G__law_pairs (hr.mono (by decide)) (passX (takes_of rfl rfl rfl rfl)) (da_cons (de_ix i_seq (de_var (pv 0)) (de_int)) (da_nil)))) (tgs_nm (pg_name (i := 4) sc__law_turn.nd rfl (Or.inl rfl)))
    (dss_one (ds_if (dt_cmp (o_ne hr.units) (de_cmp (o_inA (hu65 hr)) (de_var (pv 4)) (de_ix i_seq (de_var (pv 0)) (de_int)) (by with_unfolding_all rfl)) (de_and (de_cmp (o_inA (hu65 hr)) (de_ix i_seq (de_var (pv 4)) (de_int)) (de_var (pv 2)) (by with_unfolding_all rfl)) (de_one (de_cmp (o_inA (hu65 hr)) (de_ix i_seq (de_var (pv 4)) (de_int)) (de_var (pv 2)) (by with_unfolding_all rfl)))))
    (dss_one (ds_exprG (dg_append (pv 3) (dg_sh (de_var (pv 4))))))
    (dss_nil))))
    (dss_one (ds_ret (de_tup (da_cons (de_ix i_seq (de_var (pv 0)) (de_int)) (da_cons (de_ty c_tuple rfl T.b_tuple rfl (da_cons (de_var (pv 3)) (da_nil))) (da_nil))))))))
/-! _law_class -/
abbrev s__law_class : Stmt := top 33
abbrev n__law_class : List Str := ["_law_hall_here", "_law_found", "_law_here", "_law_many", "_law_behind", "_law_one", "_law_x", "_law_other"]
theorem sc__law_class : FnScope n__law_class ["_law_hall_here"] (defScope s__law_class) := ⟨rfl, rfl, rfl, by decide +kernel, rfl, by decide +kernel, by decide +kernel⟩
def b__law_class : SM :=
  sSeq (sPar [1, 2, 3] (xOd (fDispT (cVar 0) (cCon (.int 0))) (xS (cLst (cLim (aCons (cVar 0) (aNil)))) (xS (cCon (.int 0)) (xNil)))))
  (sSeq (whlL (cTest (cOp xNe (cVar 2) (cLst (cLim (aNil)))))
  (sSeq (sPar [4, 3] (xO (cLim (aNil)) (xS (cOp xAdd (cVar 3) (cCon (.int 1))) (xNil))))
  (sSeq (sFor [] (iSeq (cVar 2)) (.nm 5)
  (sFor0 (iRange1 (aCons (cOp xIx (cVar 0) (cCon (.int 0))) (aNil))) (.nm 6)
  (sSeq (sSetS 7 (cCallN 2 f__law_turn (aCons (cVar 5) (aCons (cVar 6) (aNil)))))
  (sIf (cTest (cOp (xInD true) (cVar 7) (cVar 1)))
  (sSeq (sSubD 1 (cVar 7) (gSh (cVar 3)))
  (sExprG (gAppend 4 (gSh (cVar 7)))))
  (sNop)))))
  (sFrz [4] (sSetS 2 (cVar 4))))) 5000)
  (sRet (cVar 1)))
def f__law_class : FM := runB 8 b__law_class
theorem ok__law_class (T : Txt K mg) (D0 : DefAt K mg "_law_class" s__law_class) (G__law_turn : FnD P w K mg base Tb 2 "_law_turn" 2 f__law_turn) : FnD P w K mg base Tb 3 "_law_class" 1 f__law_class :=
  fnD_of (ps := ["_law_hall_here"]) (N := n__law_class) (nb := b__law_class) D0 sc__law_class (fun _ _ _ _ _ _ us hl => match us, hl with | [_], _ => rfl) (by decide) fun f cdv A outer s H E ra hr =>
    (dss_cons (ds_par3 (i := 1) (j := 2) (l := 3) rfl sc__law_class.nd rfl rfl rfl rfl rfl rfl (dx_Od (de_dispT hr.units (de_var (pv 0)) (de_int)) (dx_S (de_fresh (df_lst (da_cons (de_var (pv 0)) (da_nil)))) (dx_S (de_int) (dx_nil)))))
    (dss_cons (ds_while 5000 (passes_of rfl) (dt_cmp (o_ne hr.units) (de_var (pv 2)) (de_fresh (df_lst (da_nil))))
    (dss_cons (ds_par2 (i := 4) (j := 3) rfl sc__law_class.nd rfl rfl rfl rfl (dx_O (df_lst (da_nil)) (dx_S (de_op o_add (de_var (pv 3)) (de_int)) (dx_nil))))
    (dss_cons (ds_for [] (passes_of rfl) rfl (di_seq (de_var (pv 2))) (tgs_nm (pg_name (i := 5) sc__law_class.nd rfl (Or.inl rfl)))
    (dss_one (ds_for0 (passes_of rfl) rfl (di0_range1 rfl T.b_range (da_cons (de_ix i_seq (de_var (pv 0)) (de_int)) (da_nil))) (tgs_nm (pg_name (i := 6) sc__law_class.nd rfl (Or.inl rfl)))
    (dss_cons (ds_setS (i := 7) sc__law_class.nd rfl (Or.inl rfl) (de_callD G__law_turn (hr.mono (by decide)) (passX (takes_of rfl rfl rfl rfl)) (da_cons (de_var (pv 5)) (da_cons (de_var (pv 6)) (da_nil)))))
    (dss_one (ds_if (dt_cmp (o_notInD hr.units) (de_var (pv 7)) (de_var (pv 1)) (by with_unfolding_all rfl))
    (dss_cons (ds_subD hr.units (pv 1) (de_var (pv 7)) (dg_sh (de_var (pv 3))))
    (dss_one (ds_exprG (dg_append (pv 4) (dg_sh (de_var (pv 7)))))))
    (dss_nil)))))))
    (dss_one (ds_frz [4] (ds_setS (i := 2) sc__law_class.nd rfl (Or.inl rfl) (de_var (pv 4))))))))
    (dss_one (ds_ret (de_var (pv 1))))))
/-! _law_ring -/
abbrev s__law_ring : Stmt := top 35
abbrev n__law_ring : List Str := ["_law_hall_here", "_law_x", "_law_here", "_law_turn_here", "_law_y"]
theorem sc__law_ring : FnScope n__law_ring ["_law_hall_here"] (defScope s__law_ring) := ⟨rfl, rfl, rfl, by decide +kernel, rfl, by decide +kernel, by decide +kernel⟩
def b__law_ring : SM :=
  sSeq (sIf (cTest (cOp xNe (cLst (fComp [1] (.nm 1) (iRange1 (aCons (cCon (.int 5)) (aNil))) (cTest (cOp xNe (cBlt xLen (aCons (cCallN 2 f__law_friends (aCons (cVar 0) (aCons (cVar 1) (aNil)))) (aNil))) (cCon (.int 2)))) (cVar 1))) (cLst (cLim (aNil)))))
  (sRet (cCon (.bl false)))
  (sNop))
  (sSeq (sSetS 2 (cLst (cLim (aCons (cCon (.int 0)) (aNil)))))
  (sSeq (sFor0 (iRange1 (aCons (cCon (.int 5)) (aNil))) (.nm 3)
  (sFor [] (iSeq (cLst (fBlt xList (aCons (cVar 2) (aNil))))) (.nm 1)
  (sSetS 2 (cOp xAdd (cVar 2) (cLst (fComp [4] (.nm 4) (iSeq (cCallN 2 f__law_friends (aCons (cVar 0) (aCons (cVar 1) (aNil))))) (cTest (cOp (xInA true) (cVar 4) (cVar 2))) (cVar 4)))))))
  (sRet (cOp xEq (cBlt xLen (aCons (cVar 2) (aNil))) (cCon (.int 5))))))
def f__law_ring : FM := runB 5 b__law_ring
theorem ok__law_ring (T : Txt K mg) (D0 : DefAt K mg "_law_ring" s__law_ring) (G__law_friends : FnD P w K mg base Tb 1 "_law_friends" 2 f__law_friends) : FnD P w K mg base Tb 2 "_law_ring" 1 f__law_ring :=
  fnD_of (ps := ["_law_hall_here"]) (N := n__law_ring) (nb := b__law_ring) D0 sc__law_ring (fun _ _ _ _ _ _ us hl => match us, hl with | [_], _ => rfl) (by decide) fun f cdv A outer s H E ra hr =>
    (dss_cons (ds_if (dt_cmp (o_ne hr.units) (de_fresh (df_comp (own := [("_law_x", 1)]) rfl sc__law_ring.nd (di_range1 rfl T.b_range (da_cons (de_int) (da_nil))) (blkOk_by (N := n__law_ring) (sc := (defScope s__law_ring)) (by decide +kernel)) (tgIn_nm (fun _ _ _ _ _ => pg_name (i := 1) sc__law_ring.nd rfl (Or.inl rfl))) (by decide) (fun _ _ _ _ _ => dts_one (dt_cmp (o_ne hr.units) (de_blt c_len rfl T.b_len rfl (da_cons (de_callD G__law_friends (hr.mono (by decide)) passL (da_cons (de_var (pv 0)) (da_cons (de_var (pv 1)) (da_nil)))) (da_nil))) (de_int))) (fun _ _ _ _ _ => de_var (pv 1)))) (de_fresh (df_lst (da_nil))))
    (dss_one (ds_ret (de_bl)))
    (dss_nil))
    (dss_cons (ds_setS (i := 2) sc__law_ring.nd rfl (Or.inr rfl) (de_fresh (df_lst (da_cons (de_int) (da_nil)))))
    (dss_cons (ds_for0 (passes_of rfl) rfl (di0_range1 rfl T.b_range (da_cons (de_int) (da_nil))) (tgs_nm (pg_name (i := 3) sc__law_ring.nd rfl (Or.inl rfl)))
    (dss_one (ds_for [] (passes_of rfl) rfl (di_seq (de_fresh (df_ty c_list rfl T.b_list rfl (da_cons (de_var (pv 2)) (da_nil))))) (tgs_nm (pg_name (i := 1) sc__law_ring.nd rfl (Or.inl rfl)))
    (dss_one (ds_setS (i := 2) sc__law_ring.nd rfl (Or.inr rfl) (de_op o_add (de_var (pv 2)) (de_fresh (df_comp (own := [("_law_y", 4)]) rfl sc__law_ring.nd (di_seq (de_callD G__law_friends (hr.mono (by decide)) (passX (takes_of rfl rfl rfl rfl)) (da_cons (de_var (pv 0)) (da_cons (de_var (pv 1)) (da_nil))))) (blkOk_by (N := n__law_ring) (sc := (defScope s__law_ring)) (by decide +kernel)) (tgIn_nm (fun _ _ _ _ _ => pg_name (i := 4) sc__law_ring.nd rfl (Or.inl rfl))) (by decide) (fun _ _ _ _ _ => dts_one (dt_cmp (o_notInA (hu65 hr)) (de_var (pv 4)) (de_var (pv 2)) (by with_unfolding_all rfl))) (fun _ _ _ _ _ => de_var (pv 4))))))))))
    (dss_one (ds_ret (de_cmp (o_eq hr.units) (de_blt c_len rfl T.b_len rfl (da_cons (de_var (pv 2)) (da_nil))) (de_int)))))))
/-! _law_ringed -/
abbrev s__law_ringed : Stmt := top 36
abbrev n__law_ringed : List Str := ["_law_hall_here", "_law_one"]
theorem sc__law_ringed : FnScope n__law_ringed ["_law_hall_here"] (defScope s__law_ringed) := ⟨rfl, rfl, rfl, by decide +kernel, rfl, by decide +kernel, by decide +kernel⟩
def b__law_ringed : SM :=
  sRet (cOp xNe (cLst (fComp [1] (.nm 1) (iDic (cCallN 1 f__law_class (aCons (cVar 0) (aNil)))) (cTest (cCallN 1 f__law_ring (aCons (cVar 1) (aNil)))) (cVar 1))) (cLst (cLim (aNil))))
def f__law_ringed : FM := runB 2 b__law_ringed
theorem ok__law_ringed (T : Txt K mg) (D0 : DefAt K mg "_law_ringed" s__law_ringed) (G__law_class : FnD P w K mg base Tb 3 "_law_class" 1 f__law_class) (G__law_ring : FnD P w K mg base Tb 2 "_law_ring" 1 f__law_ring) : FnD P w K mg base Tb 4 "_law_ringed" 1 f__law_ringed :=
  fnD_of (ps := ["_law_hall_here"]) (N := n__law_ringed) (nb := b__law_ringed) D0 sc__law_ringed (fun _ _ _ _ _ _ us hl => match us, hl with | [_], _ => rfl) (by decide) fun f cdv A outer s H E ra hr =>
    (dss_one (ds_ret (de_cmp (o_ne hr.units) (de_fresh (df_comp (own := [("_law_one", 1)]) rfl sc__law_ringed.nd (di_dic (de_callD G__law_class (hr.mono (by decide)) (passX (takes_of rfl rfl rfl rfl)) (da_cons (de_var (pv 0)) (da_nil)))) (blkOk_by (N := n__law_ringed) (sc := (defScope s__law_ringed)) (by decide +kernel)) (tgIn_nm (fun _ _ _ _ _ => pg_name (i := 1) sc__law_ringed.nd rfl (Or.inl rfl))) (by decide) (fun _ _ _ _ _ => dts_one (dt_val (de_callD G__law_ring (hr.mono (by decide)) passL (da_cons (de_var (pv 1)) (da_nil))))) (fun _ _ _ _ _ => de_var (pv 1)))) (de_fresh (df_lst (da_nil))))))
/-! need_person -/
abbrev s_need_person : Stmt := top 12
abbrev n_need_person : List Str := ["hall", "value"]
theorem sc_need_person : FnScope n_need_person ["hall", "value"] (defScope s_need_person) := ⟨rfl, rfl, rfl, by decide +kernel, rfl, by decide +kernel, by decide +kernel⟩
def b_need_person : SM :=
  sIf (cNot (cTest (cCallN 3 f_is_from (aCons (cVar 1) (aCons (cCon (.int 0)) (aCons (cOp xSub (cOp xIx (cVar 0) (cCon (.int 0))) (cCon (.int 1))) (aNil)))))))
  (sStuck)
  (sNop)
def f_need_person : FM := runB 2 b_need_person
theorem ok_need_person (T : Txt K mg) (D0 : DefAt K mg "need_person" s_need_person) (G_is_from : FnD P w K mg base Tb 2 "is_from" 3 f_is_from) : FnD P w K mg base Tb 3 "need_person" 2 f_need_person :=
  fnD_of (ps := ["hall", "value"]) (N := n_need_person) (nb := b_need_person) D0 sc_need_person (fun _ _ _ _ _ _ us hl => match us, hl with | [_, _], _ => rfl) (by decide) fun f cdv A outer s H E ra hr =>
    (dss_one (ds_if (dt_not (dt_val (de_callD G_is_from (hr.mono (by decide)) (passX (takes_of rfl rfl rfl rfl)) (da_cons (de_var (pv 1)) (da_cons (de_int) (da_cons (de_op o_sub (de_ix i_seq (de_var (pv 0)) (de_int)) (de_int)) (da_nil)))))))
    (dss_one (ds_never))
    (dss_nil)))
/-! need_leaving -/
abbrev s_need_leaving : Stmt := top 25
abbrev n_need_leaving : List Str := ["hall", "x"]
theorem sc_need_leaving : FnScope n_need_leaving ["hall", "x"] (defScope s_need_leaving) := ⟨rfl, rfl, rfl, by decide +kernel, rfl, by decide +kernel, by decide +kernel⟩
def b_need_leaving : SM :=
  sSeq (sExpr (cCallN 1 f_need_hall (aCons (cVar 0) (aNil))))
  (sSeq (sIf (cTest (cOp xLtA (cOp xIx (cVar 0) (cCon (.int 0))) (cCon (.int 2))))
  (sStuck)
  (sNop))
  (sExpr (cCallN 2 f_need_person (aCons (cVar 0) (aCons (cVar 1) (aNil))))))
def f_need_leaving : FM := runB 2 b_need_leaving
theorem ok_need_leaving (T : Txt K mg) (D0 : DefAt K mg "need_leaving" s_need_leaving) (G_need_hall : FnD P w K mg base Tb 5 "need_hall" 1 f_need_hall) (G_need_person : FnD P w K mg base Tb 3 "need_person" 2 f_need_person) : FnD P w K mg base Tb 6 "need_leaving" 2 f_need_leaving :=
  fnD_of (ps := ["hall", "x"]) (N := n_need_leaving) (nb := b_need_leaving) D0 sc_need_leaving (fun _ _ _ _ _ _ us hl => match us, hl with | [_, _], _ => rfl) (by decide) fun f cdv A outer s H E ra hr =>
    (dss_cons (ds_expr (de_callD G_need_hall (hr.mono (by decide)) (passX (takes_of rfl rfl rfl rfl)) (da_cons (de_var (pv 0)) (da_nil))))
    (dss_cons (ds_if (dt_cmp (o_ltA hr.units) (de_ix i_seq (de_var (pv 0)) (de_int)) (de_int))
    (dss_one (ds_never))
    (dss_nil))
    (dss_one (ds_expr (de_callD G_need_person (hr.mono (by decide)) (passX (takes_of rfl rfl rfl rfl)) (da_cons (de_var (pv 0)) (da_cons (de_var (pv 1)) (da_nil))))))))
/-! behind_turn -/
abbrev s_behind_turn : Stmt := top 15
abbrev n_behind_turn : List Str := ["hall", "x", "circle", "within", "kept", "one", "other", "pair"]
theorem sc_behind_turn : FnScope n_behind_turn ["hall", "x"] (defScope s_behind_turn) := ⟨rfl, rfl, rfl, by decide +kernel, rfl, by decide +kernel, by decide +kernel⟩
def b_behind_turn : SM :=
  sSeq (sSetS 2 (cCallN 2 f_friends_of (aCons (cVar 0) (aCons (cVar 1) (aNil)))))
  (sSeq (sSetS 3 (cLst (fComp2 [5, 6] (.nm 5) (iSeq (cVar 2)) (tYesM) (iSeq (cVar 2)) (.nm 6) (cTest (cOp xLtA (cVar 5) (cVar 6))) (cTup (aCons (cVar 5) (aCons (cVar 6) (aNil)))))))
  (sSeq (sSetS 4 (cLst (fComp [7] (.nm 7) (iSeq (cOp xIx (cVar 0) (cCon (.int 1)))) (cTest (cOp (xInA true) (cVar 7) (cVar 3))) (cVar 7))))
  (sRet (cTup (aCons (cOp xIx (cVar 0) (cCon (.int 0))) (aCons (cBlt xTuple (aCons (cLst (fBlt xSorted (aCons (cOp xAdd (cVar 4) (cLst (fComp [7] (.nm 7) (iSeq (cVar 3)) (cTest (cOp (xInA true) (cVar 7) (cOp xIx (cVar 0) (cCon (.int 1))))) (cVar 7)))) (aNil)))) (aNil))) (aNil)))))))
def f_behind_turn : FM := runB 8 b_behind_turn
theorem ok_behind_turn (T : Txt K mg) (D0 : DefAt K mg "behind_turn" s_behind_turn) (G_friends_of : FnD P w K mg base Tb 2 "friends_of" 2 f_friends_of) : FnD P w K mg base Tb 3 "behind_turn" 2 f_behind_turn :=
  fnD_of (ps := ["hall", "x"]) (N := n_behind_turn) (nb := b_behind_turn) D0 sc_behind_turn (fun _ _ _ _ _ _ us hl => match us, hl with | [_, _], _ => rfl) (by decide) fun f cdv A outer s H E ra hr =>
    (dss_cons (ds_setS (i := 2) sc_behind_turn.nd rfl (Or.inr rfl) (de_callD G_friends_of (hr.mono (by decide)) (passX (takes_of rfl rfl rfl rfl)) (da_cons (de_var (pv 0)) (da_cons (de_var (pv 1)) (da_nil)))))
    (dss_cons (ds_setS (i := 3) sc_behind_turn.nd rfl (Or.inr rfl) (de_fresh (df_comp2 (own := [("one", 5), ("other", 6)]) rfl sc_behind_turn.nd (di_seq (de_var (pv 2))) (blkOk_by (N := n_behind_turn) (sc := (defScope s_behind_turn)) (by decide +kernel)) (tgIn_nm (fun _ _ _ _ _ => pg_name (i := 5) sc_behind_turn.nd rfl (Or.inl rfl))) (by decide) (tgIn_nm (fun _ _ _ _ _ => pg_name (i := 6) sc_behind_turn.nd rfl (Or.inl rfl))) (by decide) (fun _ _ _ _ _ => dts_nil) (fun _ _ _ _ _ => di_seq (de_var (pv 2))) (fun _ _ _ _ _ => dts_one (dt_cmp (o_ltA hr.units) (de_var (pv 5)) (de_var (pv 6)))) (fun _ _ _ _ _ => de_tup (da_cons (de_var (pv 5)) (da_cons (de_var (pv 6)) (da_nil)))))))
    (dss_cons (ds_asgFD (ps_comp (i := 4) (own := [("pair", 7)]) rfl sc_behind_turn.nd rfl rfl (sw_true rfl rfl rfl (by decide +kernel)) (di_seq (de_ix i_seq (de_var (pv 0)) (de_int))) (blkOk_by (N := n_behind_turn) (sc := (defScope s_behind_turn)) (by decide +kernel)) (tgIn_nm (fun _ _ _ _ _ => pg_name (i := 7) sc_behind_turn.nd rfl (Or.inl rfl))) (by decide) (fun _ _ _ _ _ => dts_one (dt_cmp (o_notInA (hu65 hr)) (de_var (pv 7)) (de_var (pv 3)) (by with_unfolding_all rfl))) (fun _ _ _ _ _ => de_var (pv 7))))
    (dss_one (ds_ret (de_tup (da_cons (de_ix i_seq (de_var (pv 0)) (de_int)) (da_cons (de_ty c_tuple rfl T.b_tuple rfl (da_cons (de_fresh (df_blt (c_sorted hr.units) rfl T.b_sorted rfl (da_cons (de_op o_add (de_var (pv 4)) (de_fresh (df_comp (own := [("pair", 7)]) rfl sc_behind_turn.nd (di_seq (de_var (pv 3))) (blkOk_by (N := n_behind_turn) (sc := (defScope s_behind_turn)) (by decide +kernel)) (tgIn_nm (fun _ _ _ _ _ => pg_name (i := 7) sc_behind_turn.nd rfl (Or.inl rfl))) (by decide) (fun _ _ _ _ _ => dts_one (dt_cmp (o_notInA (hu65 hr)) (de_var (pv 7)) (de_ix i_seq (de_var (pv 0)) (de_int)) (by with_unfolding_all rfl))) (fun _ _ _ _ _ => de_var (pv 7))))) (da_nil)))) (da_nil))) (da_nil)))))))))
/-! behind_turns -/
abbrev s_behind_turns : Stmt := top 16
abbrev n_behind_turns : List Str := ["hall", "row", "x"]
theorem sc_behind_turns : FnScope n_behind_turns ["hall", "row"] (defScope s_behind_turns) := ⟨rfl, rfl, rfl, by decide +kernel, rfl, by decide +kernel, by decide +kernel⟩
def b_behind_turns : SM :=
  sSeq (sFor [] (iSeq (cVar 1)) (.nm 2)
  (sSetS 0 (cCallN 2 f_behind_turn (aCons (cVar 0) (aCons (cVar 2) (aNil))))))
  (sRet (cVar 0))
def f_behind_turns : FM := runB 3 b_behind_turns
theorem ok_behind_turns (T : Txt K mg) (D0 : DefAt K mg "behind_turns" s_behind_turns) (G_behind_turn : FnD P w K mg base Tb 3 "behind_turn" 2 f_behind_turn) : FnD P w K mg base Tb 4 "behind_turns" 2 f_behind_turns :=
  fnD_of (ps := ["hall", "row"]) (N := n_behind_turns) (nb := b_behind_turns) D0 sc_behind_turns (fun _ _ _ _ _ _ us hl => match us, hl with | [_, _], _ => rfl) (by decide) fun f cdv A outer s H E ra hr =>
    (dss_cons (ds_for [] (passes_of rfl) rfl (di_seq (de_var (pv 1))) (tgs_nm (pg_name (i := 2) sc_behind_turns.nd rfl (Or.inl rfl)))
    (dss_one (ds_setS (i := 0) sc_behind_turns.nd rfl (Or.inl rfl) (de_callD G_behind_turn (hr.mono (by decide)) (passX (takes_of rfl rfl rfl rfl)) (da_cons (de_var (pv 0)) (da_cons (de_var (pv 2)) (da_nil)))))))
    (dss_one (ds_ret (de_var (pv 0)))))
/-! without -/
abbrev s_without : Stmt := top 23
abbrev n_without : List Str := ["hall", "x", "pairs", "pair", "y"]
theorem sc_without : FnScope n_without ["hall", "x"] (defScope s_without) := ⟨rfl, rfl, rfl, by decide +kernel, rfl, by decide +kernel, by decide +kernel⟩
def b_without : SM :=
  sSeq (sSetS 2 (cLst (fComp [3] (.nm 3) (iSeq (cOp xIx (cVar 0) (cCon (.int 1)))) (cTest (cOp (xInA true) (cVar 1) (cVar 3))) (cVar 3))))
  (sRet (cTup (aCons (cOp xSub (cOp xIx (cVar 0) (cCon (.int 0))) (cCon (.int 1))) (aCons (cBlt xTuple (aCons (cLst (fComp [3] (.nm 3) (iSeq (cVar 2)) (tYesM) (cBlt xTuple (aCons (cLst (fComp [4] (.nm 4) (iSeq (cVar 3)) (tYesM) (cIf (cTest (cOp xGtA (cVar 4) (cVar 1))) (cOp xSub (cVar 4) (cCon (.int 1))) (cVar 4)))) (aNil))))) (aNil))) (aNil)))))
def f_without : FM := runB 5 b_without
theorem ok_without (T : Txt K mg) (D0 : DefAt K mg "without" s_without) : FnD P w K mg base Tb 1 "without" 2 f_without :=
  fnD_of (ps := ["hall", "x"]) (N := n_without) (nb := b_without) D0 sc_without (fun _ _ _ _ _ _ us hl => match us, hl with | [_, _], _ => rfl) (by decide) fun f cdv A outer s H E ra hr =>
    (dss_cons (ds_asgFD (ps_comp (i := 2) (own := [("pair", 3)]) rfl sc_without.nd rfl rfl (sw_true rfl rfl rfl (by decide +kernel)) (di_seq (de_ix i_seq (de_var (pv 0)) (de_int))) (blkOk_by (N := n_without) (sc := (defScope s_without)) (by decide +kernel)) (tgIn_nm (fun _ _ _ _ _ => pg_name (i := 3) sc_without.nd rfl (Or.inl rfl))) (by decide) (fun _ _ _ _ _ => dts_one (dt_cmp (o_notInA (hu65 hr)) (de_var (pv 1)) (de_var (pv 3)) (by with_unfolding_all rfl))) (fun _ _ _ _ _ => de_var (pv 3))))
    (dss_one (ds_ret (de_tup (da_cons (de_op o_sub (de_ix i_seq (de_var (pv 0)) (de_int)) (de_int)) (da_cons (de_ty c_tuple rfl T.b_tuple rfl (da_cons (de_fresh (df_comp (own := [("pair", 3)]) rfl sc_without.nd (di_seq (de_var (pv 2))) (blkOk_by (N := n_without) (sc := (defScope s_without)) (by decide +kernel)) (tgIn_nm (fun _ _ _ _ _ => pg_name (i := 3) sc_without.nd rfl (Or.inl rfl))) (by decide) (fun _ _ _ _ _ => dts_nil) (fun _ _ _ _ _ => de_ty c_tuple rfl T.b_tuple rfl (da_cons (de_fresh (df_comp (own := [("y", 4)]) rfl sc_without.nd (di_seq (de_var (pv 3))) (blk_in (N := n_without) (sc := { kind := .function, names := [(".0", .local), ("pair", .local), ("tuple", .globalImplicit), ("x", .cell)], isGenerator := false, isCoroutine := false, more := [] }) (by decide +kernel)) (tgIn_nm (fun _ _ _ _ _ => pg_name (i := 4) sc_without.nd rfl (Or.inl rfl))) (by decide) (fun _ _ _ _ _ => dts_nil) (fun _ _ _ _ _ => de_if (dt_cmp (o_gtA hr.units) (de_var (pv 4)) (de_var (pv 1))) (de_op o_sub (de_var (pv 4)) (de_int)) (de_var (pv 4))))) (da_nil))))) (da_nil))) (da_nil)))))))
/-! behind_leaving -/
abbrev s_behind_leaving : Stmt := top 24
abbrev n_behind_leaving : List Str := ["hall", "x", "look", "circle"]
theorem sc_behind_leaving : FnScope n_behind_leaving ["hall", "x", "look"] (defScope s_behind_leaving) := ⟨rfl, rfl, rfl, by decide +kernel, rfl, by decide +kernel, by decide +kernel⟩
def b_behind_leaving : SM :=
  sSeq (sSetS 3 (cCallN 2 f_friends_of (aCons (cVar 0) (aCons (cVar 1) (aNil)))))
  (sSeq (sIf (cTest (cOp xEq (cVar 2) (cCon (.str "Y"))))
  (sSetS 0 (cCallN 2 f_behind_turn (aCons (cVar 0) (aCons (cVar 1) (aNil)))))
  (sIf (cAnd (cTest (cOp xEq (cVar 2) (cCon (.str "X")))) (cTest (cOp xNe (cVar 3) (cLst (cLim (aNil))))))
  (sSetS 0 (cCallN 2 f_behind_turns (aCons (cVar 0) (aCons (cTup (aCons (cVar 1) (aCons (cOp xIx (cVar 3) (cCon (.int 0))) (aCons (cVar 1) (aNil))))) (aNil)))))
  (sNop)))
  (sRet (cCallN 2 f_without (aCons (cVar 0) (aCons (cVar 1) (aNil))))))
def f_behind_leaving : FM := runB 4 b_behind_leaving
theorem ok_behind_leaving (T : Txt K mg) (D0 : DefAt K mg "behind_leaving" s_behind_leaving) (G_friends_of : FnD P w K mg base Tb 2 "friends_of" 2 f_friends_of) (G_behind_turn : FnD P w K mg base Tb 3 "behind_turn" 2 f_behind_turn) (G_behind_turns : FnD P w K mg base Tb 4 "behind_turns" 2 f_behind_turns) (G_without : FnD P w K mg base Tb 1 "without" 2 f_without) : FnD P w K mg base Tb 5 "behind_leaving" 3 f_behind_leaving :=
  fnD_of (ps := ["hall", "x", "look"]) (N := n_behind_leaving) (nb := b_behind_leaving) D0 sc_behind_leaving (fun _ _ _ _ _ _ us hl => match us, hl with | [_, _, _], _ => rfl) (by decide) fun f cdv A outer s H E ra hr =>
    (dss_cons (ds_setS (i := 3) sc_behind_leaving.nd rfl (Or.inl rfl) (de_callD G_friends_of (hr.mono (by decide)) (passX (takes_of rfl rfl rfl rfl)) (da_cons (de_var (pv 0)) (da_cons (de_var (pv 1)) (da_nil)))))
    (dss_cons (ds_if (dt_cmp (o_eq hr.units) (de_var (pv 2)) (de_str))
    (dss_one (ds_setS (i := 0) sc_behind_leaving.nd rfl (Or.inl rfl) (de_callD G_behind_turn (hr.mono (by decide)) (passX (takes_of rfl rfl rfl rfl)) (da_cons (de_var (pv 0)) (da_cons (de_var (pv 1)) (da_nil))))))
    (dss_one (ds_if (dt_w (dw_and (dt_cmp (o_eq hr.units) (de_var (pv 2)) (de_str)) (dw_and1 (dt_cmp (o_ne hr.units) (de_var (pv 3)) (de_fresh (df_lst (da_nil)))))))
    (dss_one (ds_setS (i := 0) sc_behind_leaving.nd rfl (Or.inl rfl) (de_callD G_behind_turns (hr.mono (by decide)) (passX (takes_of rfl rfl rfl rfl)) (da_cons (de_var (pv 0)) (da_cons (de_tup (da_cons (de_var (pv 1)) (da_cons (de_ix i_seq (de_var (pv 3)) (de_int)) (da_cons (de_var (pv 1)) (da_nil))))) (da_nil))))))
    (dss_nil))))
    (dss_one (ds_ret (de_callD G_without (hr.mono (by decide)) (passX (takes_of rfl rfl rfl rfl)) (da_cons (de_var (pv 0)) (da_cons (de_var (pv 1)) (da_nil))))))))
/-! left -/
abbrev s_left : Stmt := top 26
abbrev n_left : List Str := ["hall", "x", "look"]
theorem sc_left : FnScope n_left ["hall", "x", "look"] (defScope s_left) := ⟨rfl, rfl, rfl, by decide +kernel, rfl, by decide +kernel, by decide +kernel⟩
def b_left : SM :=
  sSeq (sExpr (cCallN 2 f_need_leaving (aCons (cVar 0) (aCons (cVar 1) (aNil)))))
  (sSeq (sIf (cOr (cNot (cTest (cIsi "str" (cVar 2)))) (cOr (cTest (cOp xNe (cBlt xLen (aCons (cVar 2) (aNil))) (cCon (.int 1)))) (cTest (cOp (xInA true) (cVar 2) (cCon (.str "XYZ"))))))
  (sStuck)
  (sNop))
  (sRet (cCallN 3 f_behind_leaving (aCons (cVar 0) (aCons (cVar 1) (aCons (cVar 2) (aNil)))))))
def f_left : FM := runB 3 b_left
theorem ok_left (T : Txt K mg) (D0 : DefAt K mg "left" s_left) (G_need_leaving : FnD P w K mg base Tb 6 "need_leaving" 2 f_need_leaving) (G_behind_leaving : FnD P w K mg base Tb 5 "behind_leaving" 3 f_behind_leaving) : FnD P w K mg base Tb 7 "left" 3 f_left :=
  fnD_of (ps := ["hall", "x", "look"]) (N := n_left) (nb := b_left) D0 sc_left (fun _ _ _ _ _ _ us hl => match us, hl with | [_, _, _], _ => rfl) (by decide) fun f cdv A outer s H E ra hr =>
    (dss_cons (ds_expr (de_callD G_need_leaving (hr.mono (by decide)) (passX (takes_of rfl rfl rfl rfl)) (da_cons (de_var (pv 0)) (da_cons (de_var (pv 1)) (da_nil)))))
    (dss_cons (ds_if (dt_w (dw_or (dt_not (dt_val (de_isi (T := "str") rfl T.b_isinstance rfl (de_var (pv 2)) rfl T.b_str rfl))) (dw_or (dt_cmp (o_ne hr.units) (de_blt c_len rfl T.b_len rfl (da_cons (de_var (pv 2)) (da_nil))) (de_int)) (dw_or1 (dt_cmp (o_notInA (hu65 hr)) (de_var (pv 2)) (de_gstr rfl T.c_LOOKS) (by with_unfolding_all rfl))))))
    (dss_one (ds_never))
    (dss_nil))
    (dss_one (ds_ret (de_callD G_behind_leaving (hr.mono (by decide)) (passX (takes_of rfl rfl rfl rfl)) (da_cons (de_var (pv 0)) (da_cons (de_var (pv 1)) (da_cons (de_var (pv 2)) (da_nil)))))))))
/-! law -/
abbrev s_law : Stmt := top 37
abbrev n_law : List Str := ["_law_script", "_law_row", "_law_hall_here", "_law_found", "_law_x", "_law_look", "_law_other", "_law_one"]
theorem sc_law : FnScope n_law ["_law_script"] (defScope s_law) := ⟨rfl, rfl, rfl, by decide +kernel, rfl, by decide +kernel, by decide +kernel⟩
def b_law : SM :=
  sSeq (sSetS 2 (cCallN 2 f__law_hall (aCons (cVar 1) (aCons (cIf (cTest (cOp xEq (cCallN 2 f__law_taken (aCons (cVar 1) (aCons (cCon (.int 8)) (aNil)))) (cCon (.int 0)))) (cCon (.int 6)) (cCon (.int 5))) (aNil)))))
  (sSeq (sIf (cTest (cOp xLtA (cOp xIx (cVar 2) (cCon (.int 0))) (cCon (.int 5))))
  (sRet (cOp xIsA (cCallN 1 f_is_grown (aCons (cVar 2) (aNil))) (cCon (.bl true))))
  (sNop))
  (sSeq (sIf (cTest (cOp xEq (cOp xIx (cVar 2) (cCon (.int 0))) (cCon (.int 5))))
  (sRet (cCallN 2 f__law_is (aCons (cCallN 1 f_is_grown (aCons (cVar 2) (aNil))) (aCons (cNotV (cCallN 1 f__law_ringed (aCons (cVar 2) (aNil)))) (aNil)))))
  (sNop))
  (sSeq (sOwn 3 (cLim (aNil)))
  (sSeq (sFor0 (iRange1 (aCons (cCon (.int 6)) (aNil))) (.nm 4)
  (sFor [] (iSrc (cCon (.str "XYZ"))) (.nm 5)
  (sSeq (sSetS 6 (cCallN 3 f_left (aCons (cVar 2) (aCons (cVar 4) (aCons (cVar 5) (aNil))))))
  (sIf (cTest (cOp (xInA true) (cVar 6) (cVar 3)))
  (sExprG (gAppend 3 (gSh (cVar 6))))
  (sNop)))))
  (sRet (cCallN 2 f__law_is (aCons (cCallN 1 f_is_grown (aCons (cVar 2) (aNil))) (aCons (cOp xEq (cLst (fComp [7] (.nm 7) (iSeq (cVar 3)) (cTest (cCallN 1 f__law_ringed (aCons (cVar 7) (aNil)))) (cVar 7))) (cLst (cLim (aNil)))) (aNil)))))))))
theorem ok_law (T : Txt K mg) {f : Addr} {fd : FuncData} (F : Fun K "law" "law" s_law f fd) (G__law_hall : FnD P w K mg base Tb 2 "_law_hall" 2 f__law_hall) (G__law_taken : FnD P w K mg base Tb 1 "_law_taken" 2 f__law_taken) (G_is_grown : FnD P w K mg base Tb 6 "is_grown" 1 f_is_grown) (G__law_is : FnD P w K mg base Tb 1 "_law_is" 2 f__law_is) (G__law_ringed : FnD P w K mg base Tb 4 "_law_ringed" 1 f__law_ringed) (G_left : FnD P w K mg base Tb 7 "left" 3 f_left) {ok : List Int → Prop} (hv : ∀ ns, ok ns → isTrue (b_law (lawE 8 1) ⟨ns, 0, 7232, 0⟩) = true) : FnOk P w K mg base (L2.CX P w) 8 f fd ["_law_script"] (spLawT K Tb ok) :=
  law_fn (N := n_law) (k := 7) (nb := b_law) (i := 1) (Tb := Tb) (L := fun _ _ _ => .lst []) F sc_law rfl rfl rfl (by decide) (fun f cdv A outer s H E ra _ hr => ⟨pv 0, ps_set (i := 1) sc_law.nd rfl (Or.inl rfl) (pe_lst (pa_cons (pv 0) (pa_cons pe_int (pa_cons pe_int (pa_cons pe_int pa_nil))))),
   (dss_cons (ds_setS (i := 2) sc_law.nd rfl (Or.inl rfl) (de_callD G__law_hall (hr.mono (by decide)) (passX (takes_of rfl rfl rfl rfl)) (da_cons (de_var (pv 1)) (da_cons (de_if (dt_cmp (o_eq hr.units) (de_callD G__law_taken (hr.mono (by decide)) (passX (takes_of rfl rfl rfl rfl)) (da_cons (de_var (pv 1)) (da_cons (de_int) (da_nil)))) (de_int)) (de_int) (de_int)) (da_nil)))))
    (dss_cons (ds_if (dt_cmp (o_ltA hr.units) (de_ix i_seq (de_var (pv 2)) (de_int)) (de_int))
    (dss_one (ds_ret (de_cmp o_isA (de_callD G_is_grown (hr.mono (by decide)) (passX (takes_of rfl rfl rfl rfl)) (da_cons (de_var (pv 2)) (da_nil))) (de_bl))))
    (dss_nil))
    (dss_cons (ds_if (dt_cmp (o_eq hr.units) (de_ix i_seq (de_var (pv 2)) (de_int)) (de_int))
    (dss_one (ds_ret (de_callD G__law_is (hr.mono (by decide)) (passX (takes_of rfl rfl rfl rfl)) (da_cons (de_callD G_is_grown (hr.mono (by decide)) (passX (takes_of rfl rfl rfl rfl)) (da_cons (de_var (pv 2)) (da_nil))) (da_cons (de_not (de_callD G__law_ringed (hr.mono (by decide)) (passX (takes_of rfl rfl rfl rfl)) (da_cons (de_var (pv 2)) (da_nil)))) (da_nil))))))
    (dss_nil))
    (dss_cons (ds_own (i := 3) sc_law.nd rfl (Or.inl rfl) (df_lst (da_nil)))
    (dss_cons (ds_for0 (passes_of rfl) rfl (di0_range1 rfl T.b_range (da_cons (de_int) (da_nil))) (tgs_nm (pg_name (i := 4) sc_law.nd rfl (Or.inl rfl)))
    (dss_one (ds_for [] (passes_of rfl) rfl (di_src (de_str)) (tgs_nm (pg_name (i := 5) sc_law.nd rfl (Or.inl rfl)))
    (dss_cons (ds_setS (i := 6) sc_law.nd rfl (Or.inl rfl) (de_callD G_left (hr.mono (by decide)) (passX (takes_of rfl rfl rfl rfl)) (da_cons (de_var (pv 2)) (da_cons (de_var (pv 4)) (da_cons (de_var (pv 5)) (da_nil))))))
    (dss_one (ds_if (dt_cmp (o_notInA (hu65 hr)) (de_var (pv 6)) (de_var (pv 3)) (by with_unfolding_all rfl))
    (dss_one (ds_exprG (dg_append (pv 3) (dg_sh (de_var (pv 6))))))
    (dss_nil)))))))
    (dss_one (ds_ret (de_callD G__law_is (hr.mono (by decide)) (passX (takes_of rfl rfl rfl rfl)) (da_cons (de_callD G_is_grown (hr.mono (by decide)) (passX (takes_of rfl rfl rfl rfl)) (da_cons (de_var (pv 2)) (da_nil))) (da_cons (de_cmp (o_eq hr.units) (de_fresh (df_comp (own := [("_law_one", 7)]) rfl sc_law.nd (di_seq (de_var (pv 3))) (blkOk_by (N := n_law) (sc := (defScope s_law)) (by decide +kernel)) (tgIn_nm (fun _ _ _ _ _ => pg_name (i := 7) sc_law.nd rfl (Or.inl rfl))) (by decide) (fun _ _ _ _ _ => dts_one (dt_val (de_callD G__law_ringed (hr.mono (by decide)) passL (da_cons (de_var (pv 7)) (da_nil))))) (fun _ _ _ _ _ => de_var (pv 7)))) (de_fresh (df_lst (da_nil)))) (da_nil)))))))))))⟩) hv
end
end LW
end

section
open PySem PySem.Spec PyProof.Rows L2 Ev
local macro_rules | `(tactic| walk_at "arith") => `(tactic| first | assumption | decide | omega)
local macro_rules | `(tactic| walk_at "op") => `(tactic| first
  | with_reducible exact x_addI | with_reducible exact x_sub | with_reducible exact x_gtI | with_reducible exact x_ltN | with_reducible exact x_ltI | with_reducible exact x_geI | with_reducible exact x_leI | with_reducible exact x_int | with_reducible exact x_tupL | with_reducible assumption
  | exact Nat.le_of_ble_eq_true rfl | rfl
  | exact x_mod (by walk_at "arith") | exact x_div ⟨by walk_at "arith", by walk_at "arith"⟩ | exact x_mul (.inl ⟨by walk_at "arith", by walk_at "arith"⟩) | exact x_mul (.inr ⟨by walk_at "arith", by walk_at "arith"⟩) | exact x_ltN | exact x_min2 | exact x_max2 | assumption)
local macro_rules | `(tactic| walk_at "bool") => `(tactic| first | rfl | exact decide_eq_true (by walk_at "arith") | exact decide_eq_false (by walk_at "arith") | assumption)
local macro_rules | `(tactic| walk_at "ev") => `(tactic| first
  | with_reducible exact e_con | ((with_reducible apply e_var); rfl) | with_reducible exact e_nil | with_reducible exact t_yes | with_reducible exact s_nop | with_reducible exact x_nil | with_reducible exact e_no
  | with_reducible apply e_op | with_reducible apply e_cons | with_reducible apply e_blt | with_reducible apply e_tup | with_reducible apply e_lst | with_reducible apply e_lim | with_reducible apply e_call | with_reducible apply e_row | with_reducible apply e_rowLen | with_reducible apply e_rowCell | with_reducible apply e_isi | with_reducible apply e_fblt | with_reducible apply e_it | with_reducible apply e_sl
  | with_reducible apply t_test | with_reducible apply t_not
  | with_reducible apply s_setS | with_reducible apply s_set | with_reducible apply s_own | with_reducible apply s_row | with_reducible apply s_expr
  | walk_at "op")
local macro_rules | `(tactic| walk_at "evs") => `(tactic| repeat' walk_at "ev")
local macro_rules | `(tactic| walk_at "q1") => `(tactic| first
  | with_reducible refine q_nop ?_ | with_reducible refine q_seq ?_ | with_reducible exact q_end
  | ((with_reducible refine q_ret ?_); walk_at "evs"; done) | ((with_reducible refine q_retS ?_); walk_at "evs"; done)
  | ((with_reducible apply q_ifS2); (focus (walk_at "evs"; done)); (first | refine .inl ⟨by walk_at "bool", ?_⟩ | refine .inr ⟨by walk_at "bool", ?_⟩))
  | ((with_reducible apply q_if2); (focus (walk_at "evs"; done)); (first | refine .inl ⟨by walk_at "bool", ?_⟩ | refine .inr ⟨by walk_at "bool", ?_⟩))
  | ((with_reducible apply q_step); (focus (walk_at "evs"; done))))
local macro_rules | `(tactic| walk_at "q") => `(tactic| repeat walk_at "q1")

namespace LW
variable {n x y : Nat} {G : Nat → Nat → Bool} {st : DS}
theorem taken_eq (m : Int) (st : DS) (hm : 0 < m) (hm2 : m < 1073741824) (hp : 0 ≤ st.pos) : ∃ v st', f__law_taken [.row, .int m] st = .ok (.int v) st' ∧ 0 ≤ v ∧ v < m ∧ 0 ≤ st'.pos := by
  by_cases h : 0 < st.rest
  · refine ⟨st.rest % m, { st with rest := st.rest / m }, f_ret ?_, Int.emod_nonneg _ (by omega), Int.emod_lt_of_pos _ hm, hp⟩
    unfold b__law_taken
    walk_at "q"
  · by_cases h2 : (st.ns.length : Int) < st.pos + 1
    · refine ⟨(st.seed * 48271 + 11) % 2147483647 / 7 % m, { st with pos := st.pos + 1, seed := (st.seed * 48271 + 11) % 2147483647 }, f_ret ?_, Int.emod_nonneg _ (by omega), Int.emod_lt_of_pos _ hm, by show 0 ≤ st.pos + 1; omega⟩
      unfold b__law_taken
      walk_at "q"
    · obtain ⟨c, hc⟩ : ∃ c, atI st.ns (st.pos + 1 - 1) = some c := by
        have hl : st.pos.toNat < st.ns.length := by omega
        refine ⟨st.ns[st.pos.toNat], ?_⟩
        unfold atI ixN
        rw [show st.pos + 1 - 1 = st.pos by omega, if_pos hp, if_pos (by omega)]
        show st.ns[st.pos.toNat]? = _
        exact List.getElem?_eq_getElem hl
      by_cases h3 : (10 : Int) ^ 18 ≤ c
      · refine ⟨c % m, { st with pos := st.pos + 1, seed := (st.seed * 48271 + c + 11) % 2147483647, rest := c / m }, f_ret ?_, Int.emod_nonneg _ (by omega), Int.emod_lt_of_pos _ hm, by show 0 ≤ st.pos + 1; omega⟩
        unfold b__law_taken
        walk_at "q"
      · refine ⟨c % m, { st with pos := st.pos + 1, seed := (st.seed * 48271 + c + 11) % 2147483647 }, f_ret ?_, Int.emod_nonneg _ (by omega), Int.emod_lt_of_pos _ hm, by show 0 ≤ st.pos + 1; omega⟩
        unfold b__law_taken
        walk_at "q"
theorem pairs_eq (n : Nat) (hn : n ≤ 8) (st : DS) : f__law_pairs [nD n] st = .ok (.lst ((pairsN n).map pD)) st := by
  match n, hn with
  | 0, _ => rfl
  | 1, _ => rfl
  | 2, _ => rfl
  | 3, _ => rfl
  | 4, _ => rfl
  | 5, _ => rfl
  | 6, _ => rfl
  | 7, _ => rfl
  | 8, _ => rfl
theorem are_pair_eq (g : Gr G) (hx : x < n) (hy : y < n) : f_are_pair [hD n G, nD x, nD y] st = .ok (.bl (G x y)) st := by
  rw [← pr_mem g hx hy, ← Bool.false_xor (decide _)]
  refine f_ret (q_ret (e_op0 (x := pD (min x y, max x y)) (y := .tup ((prs n G).map pD)) ?_ ?_ (in_ps false _ _)))
  · apply e_tup
    · walk_at "evs"
    · exact Nat.le_of_ble_eq_true rfl
  · walk_at "evs"
theorem friends_of_eq (g : Gr G) (hn : n ≤ 8) (hx : x < n) : f_friends_of [hD n G, nD x] st = .ok (.lst ((frL n G x).map nD)) st := by
  refine f_ret (q_ret (e_lst (w_compF (f := nD) (g := nD) (p := G x) (xs := List.range n) (w_rangeN ?_ (by omega)) (by rw [List.length_range]; omega) fun y hy => ⟨_, rfl, ?_, fun _ => ?_⟩)))
  · walk_at "evs"
  · have h := are_pair_eq (st := st) g hx (List.mem_range.mp hy)
    walk_at "evs"
  · walk_at "evs"
theorem law_friends_eq (g : Gr G) (hn : n ≤ 8) (hx : x < n) : f__law_friends [hD n G, nD x] st = .ok (.lst ((frL n G x).map nD)) st := by
  refine f_ret (q_ret (e_lst (w_compF (f := nD) (g := nD) (p := G x) (xs := List.range n) (w_rangeN ?_ (by omega)) (by rw [List.length_range]; omega) fun y hy => ⟨_, rfl, t_test ?_, fun _ => ?_⟩)))
  · walk_at "evs"
  · rw [← pr_mem g hx (List.mem_range.mp hy), ← Bool.false_xor (decide _)]
    refine e_op0 (x := pD (min x y, max x y)) (y := .tup ((prs n G).map pD)) ?_ ?_ (in_ps false _ _)
    · apply e_tup
      · walk_at "evs"
      · exact Nat.le_of_ble_eq_true rfl
    · walk_at "evs"
  · walk_at "evs"
theorem behind_turn_eq (g : Gr G) (hn : n ≤ 8) (hx : x < n) : f_behind_turn [hD n G, nD x] st = .ok (hD n (turnG x G)) st := by
  refine f_ret (q_setS0 (e_call0 ?_ rfl (friends_of_eq g hn hx)) rfl ?_)
  · walk_at "evs"
  refine q_setS0 (d := .lst ((wP n G x).map pD)) ?_ rfl ?_
  · have h := w_comp2F (ρ := erS ((startE 8 [hD n G, nD x]).set 2 (some (.sh, .lst ((frL n G x).map nD))))) (st := st) (vs := [5, 6]) (t := .nm 5) (it := iSeq (cVar 2)) (it1 := iSeq (cVar 2)) (t1 := .nm 6) (tt1 := cTest (cOp xLtA (cVar 5) (cVar 6))) (te := cTup (aCons (cVar 5) (aCons (cVar 6) (aNil)))) (f := nD) (f1 := fun _ b => nD b) (g := fun a b => pD (a, b)) (xs := frL n G x) (ys := fun _ => frL n G x) (p := fun a b => decide (a < b)) (w_seqL ?_) ?_ fun a ha => ⟨_, rfl, w_seqL ?_, fun b hb => ⟨_, rfl, ?_, fun _ => ?_⟩⟩
    · rw [e_lst h]
      congr 2
      unfold wP
      rw [List.map_flatMap]
      congr 1
      funext a
      rw [List.map_map]
      rfl
    · walk_at "evs"
    · have := len_wP (n := n) (G := G) (x := x) (by omega)
      unfold wP at this
      rw [List.length_flatMap] at this ⊢
      simp only [List.length_map] at this ⊢
      omega
    · walk_at "evs"
    · walk_at "evs"
    · walk_at "evs"
  refine q_setS0 (e_lst (w_compF (f := pD) (g := pD) (p := fun p => true ^^ decide (p ∈ wP n G x)) (xs := prs n G) (w_seqT ?_) (Nat.le_trans (len_prs (by omega)) (by decide)) fun p hp => ⟨_, rfl, t_test (e_op0 (x := pD p) (y := .lst ((wP n G x).map pD)) ?_ ?_ (in_lps true _ _)), fun _ => ?_⟩)) rfl ?_
  · walk_at "evs"
  · walk_at "evs"
  · walk_at "evs"
  · walk_at "evs"
  refine q_ret (e_tup (xs := [nD n, .tup ((prs n (turnG x G)).map pD)]) (e_cons0 ?_ (e_cons0 (e_blt0 (e_cons0 (e_lst (e_fblt0 (e_cons0 (e_op0 (x := .lst (((prs n G).filter fun p => true ^^ decide (p ∈ wP n G x)).map pD)) ?_ (e_lst (w_compF (f := pD) (g := pD) (p := fun p => true ^^ decide (p ∈ prs n G)) (xs := wP n G x) (w_seqL ?_) (Nat.le_trans (len_wP (by omega)) (by decide)) fun p hp => ⟨_, rfl, t_test (e_op0 (x := pD p) (y := .tup ((prs n G).map pD)) ?_ ?_ (in_ps true _ _)), fun _ => ?_⟩)) (x_addL ?_)) e_nil) ?_)) e_nil) x_tupL) e_nil)) (by show 2 ≤ SZ; decide))
  · walk_at "evs"
  · walk_at "evs"
  · walk_at "evs"
  · walk_at "evs"
  · walk_at "evs"
  · walk_at "evs"
  · rw [List.length_map, List.length_map]
    have h1 := List.length_filter_le (fun p => true ^^ decide (p ∈ wP n G x)) (prs n G)
    have h2 := List.length_filter_le (fun p => true ^^ decide (p ∈ prs n G)) (wP n G x)
    have h3 := len_prs (n := n) (G := G) (by omega)
    have h4 := len_wP (n := n) (G := G) (x := x) (by omega)
    show _ ≤ 16777216
    omega
  · rw [← List.map_append]
    exact turn_sort hn
theorem law_turn_eq (g : Gr G) (hn : n ≤ 8) (hx : x < n) : f__law_turn [hD n G, nD x] st = .ok (hD n (turnG x G)) st := by
  refine f_ret (q_step (st1 := st) (s_par (l := [(.sh, .lst ((frL n G x).map nD)), (.own, .lst [])]) (x_S (e_call0 ?_ rfl (law_friends_eq g hn hx)) (x_O (xs := []) (st1 := st) ?_ rfl x_nil)) ⟨rfl, rfl, rfl⟩) ?_)
  · walk_at "evs"
  · walk_at "evs"
  have key : ∀ (i : Nat) (p : Nat × Nat) (ρ : SE) (s : DS), (pairsN n)[i]? = some p → (fun i ρ s => s = st ∧ ∃ o, (∀ d, o ≠ some (Kd.lent, d)) ∧ ρ = [some (.sh, hD n G), some (.sh, nD x), some (.sh, .lst ((frL n G x).map nD)), some (.own, .lst ((((pairsN n).take i).filter fun p => turnG x G p.1 p.2).map pD)), o]) i ρ s → ∃ ρ1 ρ2 st2 fl, bindSE (.nm 4) (pD p) ρ = some ρ1 ∧ (sIf (cTest (cOp xNe (cOp (xInA false) (cVar 4) (cOp xIx (cVar 0) (cCon (.int 1)))) (cAndV (cOp (xInA false) (cOp xIx (cVar 4) (cCon (.int 0))) (cVar 2)) (cOp (xInA false) (cOp xIx (cVar 4) (cCon (.int 1))) (cVar 2)))))
    (sExprG (gAppend 3 (gSh (cVar 4)))) (sNop)) ρ1 s = .ok (fl, ρ2) st2 ∧ (fl = .nx ∨ fl = .ct) ∧ (fun i ρ s => s = st ∧ ∃ o, (∀ d, o ≠ some (Kd.lent, d)) ∧ ρ = [some (.sh, hD n G), some (.sh, nD x), some (.sh, .lst ((frL n G x).map nD)), some (.own, .lst ((((pairsN n).take i).filter fun p => turnG x G p.1 p.2).map pD)), o]) (i + 1) ρ2 st2 := by
    rintro i p ρ s hp ⟨rfl, o, ho, rfl⟩
    obtain ⟨h1, h2⟩ := mem_pairsN.mp (List.mem_of_getElem? hp)
    have hlen : (((pairsN n).take i).filter fun p => turnG x G p.1 p.2).length < 10001 := by
      have h3 := List.length_filter_le (fun p => turnG x G p.1 p.2) ((pairsN n).take i)
      have h4 := List.length_take_le' i (pairsN n)
      have h5 := len_pairsN (n := n) (by omega)
      omega
    have hb : bindSE (.nm 4) (pD p) [some (Kd.sh, hD n G), some (.sh, nD x), some (.sh, .lst ((frL n G x).map nD)), some (.own, .lst ((((pairsN n).take i).filter fun p => turnG x G p.1 p.2).map pD)), o] = some [some (.sh, hD n G), some (.sh, nD x), some (.sh, .lst ((frL n G x).map nD)), some (.own, .lst ((((pairsN n).take i).filter fun p => turnG x G p.1 p.2).map pD)), some (.sh, pD p)] := by
      show (if notLent _ 4 = true then _ else _) = _
      rw [if_pos]
      · rfl
      · unfold notLent
        cases o with
        | none => rfl
        | some q =>
          obtain ⟨k, d⟩ := q
          cases k with
          | lent => exact absurd rfl (ho d)
          | _ => rfl
    have hcond : (decide (p ∈ prs n G) != (decide (p.1 ∈ frL n G x) && decide (p.2 ∈ frL n G x))) = turnG x G p.1 p.2 := by
      have e1 : decide (p ∈ prs n G) = G p.1 p.2 := by
        rw [Bool.eq_iff_iff, decide_eq_true_iff, mem_prs]
        exact ⟨fun z => z.2, fun z => ⟨⟨h1, h2⟩, z⟩⟩
      have e2 : decide (p.1 ∈ frL n G x) = G x p.1 := by
        rw [Bool.eq_iff_iff, decide_eq_true_iff, mem_frL]
        exact ⟨fun z => z.2, fun z => ⟨by omega, z⟩⟩
      have e3 : decide (p.2 ∈ frL n G x) = G x p.2 := by
        rw [Bool.eq_iff_iff, decide_eq_true_iff, mem_frL]
        exact ⟨fun z => z.2, fun z => ⟨h2, z⟩⟩
      rw [e1, e2, e3]
      unfold turnG
      rw [show decide (p.1 ≠ p.2) = true from decide_eq_true (by omega)]
      cases G p.1 p.2 <;> cases G x p.1 <;> cases G x p.2 <;> rfl
    have hc : cTest (cOp xNe (cOp (xInA false) (cVar 4) (cOp xIx (cVar 0) (cCon (.int 1)))) (cAndV (cOp (xInA false) (cOp xIx (cVar 4) (cCon (.int 0))) (cVar 2)) (cOp (xInA false) (cOp xIx (cVar 4) (cCon (.int 1))) (cVar 2)))) (er [some (Kd.sh, hD n G), some (.sh, nD x), some (.sh, .lst ((frL n G x).map nD)), some (.own, .lst ((((pairsN n).take i).filter fun p => turnG x G p.1 p.2).map pD)), some (.sh, pD p)]) s = .ok (turnG x G p.1 p.2) s := by
      rw [← hcond]
      refine t_test (e_op0 (x := .bl (decide (p ∈ prs n G))) (y := .bl (decide (p.1 ∈ frL n G x) && decide (p.2 ∈ frL n G x))) ?_ (e_andB ?_ fun _ => ?_) x_neB)
      · rw [← Bool.false_xor (decide (p ∈ prs n G))]
        refine e_op0 (x := pD p) (y := .tup ((prs n G).map pD)) ?_ ?_ (in_ps false _ _)
        · walk_at "evs"
        · walk_at "evs"
      · rw [← Bool.false_xor (decide (p.1 ∈ frL n G x))]
        refine e_op0 (x := nD p.1) (y := .lst ((frL n G x).map nD)) ?_ ?_ (in_lns false _ _)
        · walk_at "evs"
        · walk_at "evs"
      · rw [← Bool.false_xor (decide (p.2 ∈ frL n G x))]
        refine e_op0 (x := nD p.2) (y := .lst ((frL n G x).map nD)) ?_ ?_ (in_lns false _ _)
        · walk_at "evs"
        · walk_at "evs"
    cases ht : turnG x G p.1 p.2 with
    | true =>
      rw [ht] at hc
      refine ⟨_, _, _, _, hb, s_ifT hc rfl (s_exprG (g_append rfl (g_sh (by walk_at "evs")) rfl (by rw [List.length_map]; show _ < 16777216; omega))), .inl rfl, rfl, some (.sh, pD p), (fun d e => by cases e), ?_⟩
      rw [take_succ_filter hp, if_pos ht, List.map_append]
      rfl
    | false =>
      rw [ht] at hc
      refine ⟨_, _, _, _, hb, s_ifF hc rfl s_nop, .inl rfl, rfl, some (.sh, pD p), (fun d e => by cases e), ?_⟩
      rw [take_succ_filter hp, if_neg (by rw [ht]; exact Bool.false_ne_true), List.append_nil]
  obtain ⟨ρ', st', e1, e2⟩ := forL_invF (t := .nm 4) (nb := sIf (cTest (cOp xNe (cOp (xInA false) (cVar 4) (cOp xIx (cVar 0) (cCon (.int 1)))) (cAndV (cOp (xInA false) (cOp xIx (cVar 4) (cCon (.int 0))) (cVar 2)) (cOp (xInA false) (cOp xIx (cVar 4) (cCon (.int 1))) (cVar 2)))))
    (sExprG (gAppend 3 (gSh (cVar 4)))) (sNop)) (f := pD) (xs := pairsN n) (ρ := [some (.sh, hD n G), some (.sh, nD x), some (.sh, .lst ((frL n G x).map nD)), some (.own, .lst []), none]) (st := st)
    (fun i ρ s => s = st ∧ ∃ o, (∀ d, o ≠ some (Kd.lent, d)) ∧ ρ = [some (.sh, hD n G), some (.sh, nD x), some (.sh, .lst ((frL n G x).map nD)), some (.own, .lst ((((pairsN n).take i).filter fun p => turnG x G p.1 p.2).map pD)), o]) key ⟨rfl, none, (fun d e => nomatch e), rfl⟩
  obtain ⟨rfl, o, ho, rfl⟩ := e2
  rw [List.take_length] at e1
  refine q_forN (w_seqL (e_call0 ?_ rfl (pairs_eq n hn _))) (.inr rfl) e1 ?_
  · walk_at "evs"
  refine q_ret ?_
  walk_at "evs"
theorem is_from_eq (v lo hi : Int) : f_is_from [.int v, .int lo, .int hi] st = .ok (.bl (decide (lo ≤ v) && decide (v ≤ hi))) st := by
  refine f_ret (q_ret (e_andT (e_call0 (xs := [.int v]) ?_ rfl rfl) (e_chainB (x := .int lo) (y := .int v) (z := .int hi) ?_ ?_ x_leI (fun _ => ?_) (fun _ => x_leI))))
  all_goals walk_at "evs"
theorem is_from_nat {v n : Nat} (h : v < n) : f_is_from [nD v, .int 0, .int ((n : Int) - 1)] st = .ok (.bl true) st := by
  have := is_from_eq (st := st) v 0 ((n : Int) - 1)
  rw [decide_eq_true (show (0 : Int) ≤ v by omega), decide_eq_true (show (v : Int) ≤ n - 1 by omega)] at this
  exact this
theorem is_pair_of_eq {p : Nat × Nat} (h1 : p.1 < p.2) (h2 : p.2 < n) : f_is_pair_of [nD n, pD p] st = .ok (.bl true) st := by
  refine f_ret (q_ifS0 (k := false) (t_orF (k := false) (st1 := st) (t_not (k := true) ?_) (t_orF (k := false) (st1 := st) (t_test (e_op0 (x := .int 2) (y := .int 2) ?_ ?_ rfl)) (t_not (k := true) (t_test (e_blt0 (xs := [.lst ([p.1, p.2].map fun _ => .bl true)]) (e_cons0 (e_lst (w_compA (f := nD) (g := fun _ => .bl true) (xs := [p.1, p.2]) (w_seqT ?_) (by show 2 ≤ 1000000; decide) fun a ha => ⟨_, rfl, ?_⟩)) e_nil) rfl))))) (.inr ⟨rfl, q_nop (q_ret ?_)⟩))
  · walk_at "evs"
  · walk_at "evs"
  · walk_at "evs"
  · walk_at "evs"
  · have hf : f_is_from [nD a, .int 0, .int ((n : Int) - 1)] st = .ok (.bl true) st := by
      rcases List.mem_cons.mp ha with rfl | ha
      · exact is_from_nat (by omega)
      · rw [List.mem_singleton.mp ha]
        exact is_from_nat h2
    walk_at "evs"
  · rw [← show decide (p.1 < p.2) = true from decide_eq_true h1]
    refine e_op0 (x := nD p.1) (y := nD p.2) ?_ ?_ x_ltN
    · walk_at "evs"
    · walk_at "evs"
theorem pairs_up {n : Nat} {G : Nat → Nat → Bool} : (((prs n G).zip ((prs n G).drop 1)).all fun q => decide (q.1.1 < q.2.1 ∨ (q.1.1 = q.2.1 ∧ q.1.2 < q.2.2))) = true := by
  have h : (prs n G).Pairwise ltP := (sorted_pairsN n).filter _
  generalize prs n G = l at h
  induction l with
  | nil => rfl
  | cons a l ih =>
    cases l with
    | nil => rfl
    | cons b l =>
      rw [List.drop_one, List.tail_cons, List.zip_cons_cons, List.all_cons]
      rw [List.pairwise_cons] at h
      have := ih h.2
      rw [List.drop_one, List.tail_cons] at this
      rw [this, Bool.and_true]
      exact decide_eq_true (h.1 b List.mem_cons_self)
theorem is_hall_eq (h1 : 1 ≤ n) (hn : n ≤ 8) : f_is_hall [hD n G] st = .ok (.bl true) st := by
  have hf : f_is_from [nD n, .int 1, .int 8] st = .ok (.bl true) st := by
    have := is_from_eq (st := st) n 1 8
    rw [decide_eq_true (show (1 : Int) ≤ n by omega), decide_eq_true (show (n : Int) ≤ 8 by omega)] at this
    exact this
  refine f_ret (q_ifS0 (k := false) ?_ (.inr ⟨rfl, q_nop (q_step (st1 := st) (s_unp (d := hD n G) (g_sh ?_) rfl) (q_ifS0 (k := false) ?_ (.inr ⟨rfl, q_nop (q_ret ?_)⟩)))⟩))
  · refine t_orF (k := false) (st1 := st) (t_not (k := true) ?_) (t_orF (k := false) (st1 := st) (t_test (e_op0 (x := .int 2) (y := .int 2) ?_ ?_ rfl)) (t_not (k := true) (t_test (e_call0 (xs := [nD n, .int 1, .int 8]) ?_ rfl hf))))
    all_goals walk_at "evs"
  · walk_at "evs"
  · refine t_orF (k := false) (st1 := st) (t_not (k := true) ?_) (t_not (k := true) (t_test (e_blt0 (xs := [.lst ((prs n G).map fun _ => .bl true)]) (e_cons0 (e_lst (w_compA (f := pD) (g := fun _ => .bl true) (xs := prs n G) (w_seqT ?_) (Nat.le_trans (len_prs (by omega)) (by decide)) fun p hp => ⟨_, rfl, ?_⟩)) e_nil) ?_)))
    · walk_at "evs"
    · walk_at "evs"
    · have hm := mem_prs.mp hp
      have hq := is_pair_of_eq (st := st) hm.1.1 hm.1.2
      walk_at "evs"
    · rw [x_all (p := fun _ => true)]
      congr 2
      rw [List.all_eq_true]
      exact fun _ _ => rfl
  · refine e_blt0 (xs := [.lst (((prs n G).zip ((prs n G).drop 1)).map fun q => .bl (decide (q.1.1 < q.2.1 ∨ (q.1.1 = q.2.1 ∧ q.1.2 < q.2.2))))]) (e_cons0 (e_lst (w_compA (f := fun q => .tup [pD q.1, pD q.2]) (xs := (prs n G).zip ((prs n G).drop 1)) ?_ ?_ fun q hq => ⟨_, rfl, e_op0 (x := pD q.1) (y := pD q.2) ?_ ?_ x_ltP⟩)) e_nil) ?_
    · rw [← zipD_map]
      refine w_zipT (e_cons0 ?_ (e_cons0 (e_sl (x := .tup ((prs n G).map pD)) (st1 := st) (st2 := st) ?_ (e_it e_con) e_no ?_) e_nil))
      · walk_at "evs"
      · walk_at "evs"
      · show some (D.tup (cutD ((prs n G).map pD) (some ((1 : Nat) : Int)) none)) = _
        rw [cut_from, List.map_drop]
    · rw [List.length_zip]
      have := len_prs (n := n) (G := G) (by omega)
      omega
    · walk_at "evs"
    · walk_at "evs"
    · rw [x_all, pairs_up]
theorem need_hall_eq (h1 : 1 ≤ n) (hn : n ≤ 8) : f_need_hall [hD n G] st = .ok .non st := by
  refine f_ret (q_if0 (k := false) (t_not (k := true) (t_test (e_call0 (xs := [hD n G]) ?_ rfl (is_hall_eq h1 hn)))) (.inr ⟨rfl, q_end⟩))
  walk_at "evs"
theorem need_person_eq (hx : x < n) : f_need_person [hD n G, nD x] st = .ok .non st := by
  refine f_ret (q_if0 (k := false) (t_not (k := true) (t_test (e_call0 (xs := [nD x, .int 0, .int ((n : Int) - 1)]) ?_ rfl (is_from_nat hx)))) (.inr ⟨rfl, q_end⟩))
  walk_at "evs"
theorem behind_turns_eq (g : Gr G) (hn : n ≤ 8) {l : List Nat} (hl : ∀ x ∈ l, x < n) : f_behind_turns [hD n G, .tup (l.map nD)] st = .ok (hD n (turnsG l G)) st := by
  have key : ∀ (i : Nat) (x : Nat) (ρ : SE) (s : DS), l[i]? = some x → (fun i ρ s => s = st ∧ ∃ o, okS o ∧ ρ = [some (.sh, hD n (turnsG (l.take i) G)), some (.sh, .tup (l.map nD)), o]) i ρ s →
      ∃ ρ1 ρ2 st2 fl, bindSE (.nm 2) (nD x) ρ = some ρ1 ∧ sSetS 0 (cCallN 2 f_behind_turn (aCons (cVar 0) (aCons (cVar 2) (aNil)))) ρ1 s = .ok (fl, ρ2) st2 ∧ (fl = .nx ∨ fl = .ct) ∧ (fun i ρ s => s = st ∧ ∃ o, okS o ∧ ρ = [some (.sh, hD n (turnsG (l.take i) G)), some (.sh, .tup (l.map nD)), o]) (i + 1) ρ2 st2 := by
    rintro i x ρ s hx ⟨rfl, o, ho, rfl⟩
    refine ⟨_, _, _, _, bind_at rfl ho, s_setS (e_call0 (xs := [hD n (turnsG (l.take i) G), nD x]) ?_ rfl (behind_turn_eq (g.turns _) hn (hl x (List.mem_of_getElem? hx)))) rfl, .inl rfl, rfl, some (.sh, nD x), okS_sh, ?_⟩
    · walk_at "evs"
    · rw [List.take_succ, hx]
      show _ = [some (Kd.sh, hD n (turnsG (l.take i ++ [x]) G)), _, _]
      rw [turns_snoc]
      rfl
  obtain ⟨ρ', st', e1, rfl, o, ho, rfl⟩ := forL_invF (t := .nm 2) (nb := sSetS 0 (cCallN 2 f_behind_turn (aCons (cVar 0) (aCons (cVar 2) (aNil))))) (f := nD) (xs := l) (ρ := startE 3 [hD n G, .tup (l.map nD)]) (st := st) _ key ⟨rfl, none, okS_none, rfl⟩
  refine f_ret (q_forN (w_seqT ?_) (.inr rfl) e1 (q_ret ?_))
  · walk_at "evs"
  · rw [List.take_length]
    walk_at "evs"
theorem taken_nat (m : Nat) (st : DS) (hm : 1 ≤ m) (hm2 : m < 1073741824) (hp : 0 ≤ st.pos) : ∃ (v : Nat) (st' : DS), f__law_taken [.row, nD m] st = .ok (nD v) st' ∧ v < m ∧ 0 ≤ st'.pos := by
  obtain ⟨v, st', h1, h2, h3, h4⟩ := taken_eq m st (by omega) (by omega) hp
  refine ⟨v.toNat, st', ?_, by omega, h4⟩
  rw [show nD m = .int (m : Int) from rfl, h1]
  congr 2
  show v = ((v.toNat : Nat) : Int)
  omega
def hallEnv (m n w : Nat) : SE := [some (.sh, .row), some (.sh, nD m), some (.sh, nD n), some (.sh, nD w), some (.sh, .lst []), none, none]
def hallB : SM := sIf (cTest (cOp xLtA (cVar 3) (cCon (.int 3))))
  (sSetS 4 (cLst (fComp [5] (.nm 5) (iSeq (cCallN 1 f__law_pairs (aCons (cVar 2) (aNil)))) (cTest (cOp xLeA (cCallN 2 f__law_taken (aCons (cVar 0) (aCons (cCon (.int 4)) (aNil)))) (cVar 3))) (cVar 5))))
  (sIf (cTest (cOp xEq (cVar 3) (cCon (.int 3))))
  (sSetS 4 (cOp xAdd (cLst (fComp [6] (.nm 6) (iRange1 (aCons (cOp xSub (cVar 2) (cCon (.int 1))) (aNil))) (tYesM) (cTup (aCons (cVar 6) (aCons (cOp xAdd (cVar 6) (cCon (.int 1))) (aNil)))))) (cIf (cTest (cOp xGtA (cVar 2) (cCon (.int 2)))) (cLst (cLim (aCons (cTup (aCons (cCon (.int 0)) (aCons (cOp xSub (cVar 2) (cCon (.int 1))) (aNil)))) (aNil)))) (cLst (cLim (aNil))))))
  (sIf (cTest (cOp xEq (cVar 3) (cCon (.int 4))))
  (sSetS 4 (cLst (fComp [6] (.nm 6) (iRange2 (aCons (cCon (.int 1)) (aCons (cVar 2) (aNil)))) (tYesM) (cTup (aCons (cCallN 2 f__law_taken (aCons (cVar 0) (aCons (cVar 6) (aNil)))) (aCons (cVar 6) (aNil)))))))
  (sSetS 4 (cOp xAdd (cLst (fComp [6] (.nm 6) (iRange2 (aCons (cCon (.int 1)) (aCons (cVar 2) (aNil)))) (tYesM) (cTup (aCons (cCon (.int 0)) (aCons (cVar 6) (aNil)))))) (cLst (fComp [6] (.nm 6) (iRange2 (aCons (cCon (.int 1)) (aCons (cOp xSub (cVar 2) (cCon (.int 1))) (aNil)))) (cTest (cOp xEq (cCallN 2 f__law_taken (aCons (cVar 0) (aCons (cCon (.int 2)) (aNil)))) (cCon (.int 0)))) (cTup (aCons (cVar 6) (aCons (cOp xAdd (cVar 6) (cCon (.int 1))) (aNil))))))))))
def okHall (n : Nat) (L : List (Nat × Nat)) : Prop := L.Nodup ∧ (∀ p ∈ L, p.1 < p.2 ∧ p.2 < n) ∧ L.length ≤ 20000
theorem hall1 (m n w : Nat) (hw : w < 3) (hn : n ≤ 8) (st : DS) (hp : 0 ≤ st.pos) : ∃ L st', hallB (hallEnv m n w) st = .ok (.nx, (hallEnv m n w).set 4 (some (.sh, .lst (L.map pD)))) st' ∧ okHall n L ∧ 0 ≤ st'.pos := by
  obtain ⟨L, st', e1, e2, e3⟩ := compL_sub (ρ := erS (hallEnv m n w)) (vs := [5]) (t := .nm 5) (tt := cTest (cOp xLeA (cCallN 2 f__law_taken (aCons (cVar 0) (aCons (cCon (.int 4)) (aNil)))) (cVar 3))) (te := cVar 5) (f := pD) (g := pD) (OK := fun s => 0 ≤ s.pos) (pairsN n) (fun p hp s hs => by
    obtain ⟨v, s', h1, h2, h3⟩ := taken_nat 4 s (by decide) (by decide) hs
    refine ⟨_, decide ((v : Int) ≤ (w : Int)), s', rfl, ?_, h3, fun _ => rfl⟩
    refine t_test (e_op (x := nD v) (y := nD w) (st1 := s') (st2 := s') (e_call (xs := [.row, nD 4]) (st1 := s) ?_ rfl h1) rfl x_leI)
    walk_at "evs") st hp
  refine ⟨L, st', ?_, ⟨e2.nodup (nodup_pairsN n), fun p hp => mem_pairsN.mp (e2.subset hp), ?_⟩, e3⟩
  · refine s_ifT (k := true) (st1 := st) ?_ rfl (s_setS (e_lst (w_comp (xs := (pairsN n).map pD) (st1 := st) (w_seqL (e_call0 (xs := [nD n]) ?_ rfl (pairs_eq n hn st))) ?_ e1)) rfl)
    · rw [← show decide ((w : Int) < 3) = true from decide_eq_true (by omega)]
      exact t_test (e_op0 (x := nD w) (y := .int 3) rfl rfl x_ltI)
    · walk_at "evs"
    · rw [List.length_map]
      exact Nat.le_trans (len_pairsN (by omega)) (by decide)
  · exact Nat.le_trans e2.length_le (Nat.le_trans (len_pairsN (by omega)) (by decide))
theorem hall2 (m n : Nat) (h1 : 1 ≤ n) (hn : n ≤ 8) (st : DS) (hp : 0 ≤ st.pos) : ∃ L st', hallB (hallEnv m n 3) st = .ok (.nx, (hallEnv m n 3).set 4 (some (.sh, .lst (L.map pD)))) st' ∧ okHall n L ∧ 0 ≤ st'.pos := by
  refine ⟨(List.range (n - 1)).map (fun x => (x, x + 1)) ++ (if 2 < n then [(0, n - 1)] else []), st, ?_, ?_, hp⟩
  · match n, h1, hn with
    | 1, _, _ => rfl
    | 2, _, _ => rfl
    | 3, _, _ => rfl
    | 4, _, _ => rfl
    | 5, _, _ => rfl
    | 6, _, _ => rfl
    | 7, _, _ => rfl
    | 8, _, _ => rfl
  · unfold okHall
    match n, h1, hn with
    | 1, _, _ => decide
    | 2, _, _ => decide
    | 3, _, _ => decide
    | 4, _, _ => decide
    | 5, _, _ => decide
    | 6, _, _ => decide
    | 7, _, _ => decide
    | 8, _, _ => decide
theorem hall3 (m n : Nat) (h1 : 1 ≤ n) (hn : n ≤ 8) (st : DS) (hp : 0 ≤ st.pos) : ∃ L st', hallB (hallEnv m n 4) st = .ok (.nx, (hallEnv m n 4).set 4 (some (.sh, .lst (L.map pD)))) st' ∧ okHall n L ∧ 0 ≤ st'.pos := by
  obtain ⟨L, st', e1, e2, e3⟩ := compL_draw (ρ := erS (hallEnv m n 4)) (vs := [6]) (t := .nm 6) (te := cTup (aCons (cCallN 2 f__law_taken (aCons (cVar 0) (aCons (cVar 6) (aNil)))) (aCons (cVar 6) (aNil)))) (f := nD) (g := pD) (R := fun x p => p.2 = x ∧ p.1 < x) (OK := fun s => 0 ≤ s.pos) (List.range' 1 (n - 1)) (fun x hx s hs => by
    have hx := List.mem_range'_1.mp hx
    obtain ⟨v, s', h1, h2, h3⟩ := taken_nat x s (by omega) (by omega) hs
    refine ⟨_, (v, x), s', rfl, ?_, ⟨rfl, h2⟩, h3⟩
    exact e_tup (xs := [nD v, nD x]) (e_cons (e_call (xs := [.row, nD x]) (st1 := s) (by walk_at "evs") rfl h1) (e_cons0 rfl e_nil)) (by show 2 ≤ SZ; decide)) st hp
  refine ⟨L, st', ?_, ⟨?_, fun p hp => ?_, ?_⟩, e3⟩
  · refine s_ifF (k := false) (st1 := st) rfl rfl (s_ifF (k := false) (st1 := st) rfl rfl (s_ifT (k := true) (st1 := st) rfl rfl (s_setS (e_lst (w_comp (xs := (List.range' 1 (n - 1)).map nD) (st1 := st) (w_rangeL (i := 1) (n := n) ?_ (by decide) (by omega)) ?_ e1)) rfl)))
    · walk_at "evs"
    · rw [List.length_map, List.length_range']
      show _ ≤ 16777216
      omega
  · have hm : L.map Prod.snd = (List.range' 1 (n - 1)).map id := e2.map_eq fun a b r => r.1
    have hnd : (L.map Prod.snd).Nodup := by
      rw [hm, List.map_id]
      exact List.nodup_range'
    exact List.Pairwise.of_map Prod.snd (fun a b h e => h (by rw [e])) hnd
  · obtain ⟨x, hx, r1, r2⟩ := e2.mem hp
    have hx := List.mem_range'_1.mp hx
    omega
  · rw [← e2.length, List.length_range']
    omega
theorem hall4 (m n : Nat) (h1 : 1 ≤ n) (hn : n ≤ 8) (st : DS) (hp : 0 ≤ st.pos) : ∃ L st', hallB (hallEnv m n 5) st = .ok (.nx, (hallEnv m n 5).set 4 (some (.sh, .lst (L.map pD)))) st' ∧ okHall n L ∧ 0 ≤ st'.pos := by
  obtain ⟨L, st', e1, e2, e3⟩ := compL_sub (ρ := erS (hallEnv m n 5)) (vs := [6]) (t := .nm 6) (tt := cTest (cOp xEq (cCallN 2 f__law_taken (aCons (cVar 0) (aCons (cCon (.int 2)) (aNil)))) (cCon (.int 0)))) (te := cTup (aCons (cVar 6) (aCons (cOp xAdd (cVar 6) (cCon (.int 1))) (aNil)))) (f := nD) (g := fun x => pD (x, x + 1)) (OK := fun s => 0 ≤ s.pos) (List.range' 1 (n - 2)) (fun x hx s hs => by
    obtain ⟨v, s', h1, h2, h3⟩ := taken_nat 2 s (by decide) (by decide) hs
    have hv : v = 0 ∨ v = 1 := by omega
    refine ⟨_, decide (v = 0), s', rfl, ?_, h3, fun _ => rfl⟩
    refine t_test (e_op (x := nD v) (y := .int 0) (st1 := s') (st2 := s') (e_call (xs := [.row, nD 2]) (st1 := s) (by walk_at "evs") rfl h1) rfl ?_)
    rcases hv with rfl | rfl <;> rfl) st hp
  have hL1 : fComp [6] (.nm 6) (iRange2 (aCons (cCon (.int 1)) (aCons (cVar 2) (aNil)))) (tYesM) (cTup (aCons (cCon (.int 0)) (aCons (cVar 6) (aNil)))) (erS (hallEnv m n 5)) st = .ok (((List.range' 1 (n - 1)).map fun x => (0, x)).map pD) st := by
    rw [List.map_map]
    refine w_compA (f := nD) (g := pD ∘ fun x => (0, x)) (xs := List.range' 1 (n - 1)) (w_rangeL (i := 1) (n := n) (by walk_at "evs") (by decide) (by omega)) (by rw [List.length_range']; omega) fun a ha => ⟨_, rfl, rfl⟩
  have hr2 : iRange2 (aCons (cCon (.int 1)) (aCons (cOp xSub (cVar 2) (cCon (.int 1))) (aNil))) (erS (hallEnv m n 5)) st = .ok ((List.range' 1 (n - 2)).map nD) st := by
    rw [show n - 2 = (n - 1) - 1 by omega]
    refine w_rangeL (i := 1) (n := n - 1) (e_cons0 e_con (e_cons0 (e_op0 (x := nD n) (y := .int 1) rfl rfl ?_) e_nil)) (by decide) (by omega)
    show some (D.int ((n : Int) - 1)) = some (D.int (((n - 1 : Nat)) : Int))
    rw [show ((n - 1 : Nat) : Int) = (n : Int) - 1 by omega]
  have hlen := e2.length_le
  rw [List.length_range'] at hlen
  refine ⟨((List.range' 1 (n - 1)).map fun x => (0, x)) ++ (L.map fun x => (x, x + 1)), st', ?_, ⟨?_, fun p hp => ?_, ?_⟩, e3⟩
  · refine s_ifF (k := false) (st1 := st) rfl rfl (s_ifF (k := false) (st1 := st) rfl rfl (s_ifF (k := false) (st1 := st) rfl rfl (s_setS (d := .lst ((((List.range' 1 (n - 1)).map fun x => (0, x)) ++ (L.map fun x => (x, x + 1))).map pD)) (e_op (x := .lst (((List.range' 1 (n - 1)).map fun x => (0, x)).map pD)) (y := .lst ((L.map fun x => (x, x + 1)).map pD)) (st1 := st) (st2 := st') (e_lst hL1) (e_lst ?_) ?_) rfl)))
    · rw [List.map_map]
      exact w_comp hr2 (by rw [List.length_map, List.length_range']; show _ ≤ 16777216; omega) e1
    · rw [List.map_append]
      refine x_addL ?_
      rw [List.length_map, List.length_map, List.length_map, List.length_map, List.length_range']
      show _ ≤ 16777216
      omega
  · rw [List.nodup_append]
    refine ⟨?_, ?_, ?_⟩
    · exact List.Pairwise.map _ (fun a b h e => h (by injection e)) (List.nodup_range' (s := 1) (n := n - 1) (step := 1))
    · exact List.Pairwise.map _ (fun a b h e => h (by injection e)) (e2.nodup (List.nodup_range' (s := 1) (n := n - 2) (step := 1)))
    · rintro a ha b hb e
      subst e
      obtain ⟨x, hx, rfl⟩ := List.mem_map.mp ha
      obtain ⟨z, hz, hzz⟩ := List.mem_map.mp hb
      have hz := List.mem_range'_1.mp (e2.subset hz)
      injection hzz with q1 q2
      omega
  · rcases List.mem_append.mp hp with hp | hp
    · obtain ⟨x, hx, rfl⟩ := List.mem_map.mp hp
      have hx := List.mem_range'_1.mp hx
      exact ⟨by show 0 < x; omega, by show x < n; omega⟩
    · obtain ⟨x, hx, rfl⟩ := List.mem_map.mp hp
      have hx := List.mem_range'_1.mp (e2.subset hx)
      exact ⟨by show x < x + 1; omega, by show x + 1 < n; omega⟩
  · rw [List.length_append, List.length_map, List.length_map, List.length_range']
    omega
theorem hallB_eq (m n w : Nat) (hw : w < 6) (h1 : 1 ≤ n) (hn : n ≤ 8) (st : DS) (hp : 0 ≤ st.pos) : ∃ L st', hallB (hallEnv m n w) st = .ok (.nx, (hallEnv m n w).set 4 (some (.sh, .lst (L.map pD)))) st' ∧ okHall n L ∧ 0 ≤ st'.pos := by
  by_cases h : w < 3
  · exact hall1 m n w h hn st hp
  · match w, h, hw with
    | 3, _, _ => exact hall2 m n h1 hn st hp
    | 4, _, _ => exact hall3 m n h1 hn st hp
    | 5, _, _ => exact hall4 m n h1 hn st hp
theorem hall_eq (m : Nat) (h1 : 1 ≤ m) (hm : m ≤ 8) (st : DS) (hp : 0 ≤ st.pos) : ∃ n G st', f__law_hall [.row, nD m] st = .ok (hD n G) st' ∧ 1 ≤ n ∧ n ≤ m ∧ Gr G ∧ 0 ≤ st'.pos := by
  obtain ⟨v, st1, t1, v1, p1⟩ := taken_nat m st h1 (by omega) hp
  obtain ⟨w, st2, t2, v2, p2⟩ := taken_nat 6 st1 (by decide) (by decide) p1
  obtain ⟨L, st3, e1, ⟨nd, hL, hl⟩, p3⟩ := hallB_eq m (1 + v) w v2 (by omega) (by omega) st2 p2
  refine ⟨1 + v, gOf L, st3, ?_, by omega, by omega, gOf_gr fun p hp => (hL p hp).1, p3⟩
  refine f_ret (q_step (st1 := st2) (s_unp (d := .tup [nD (1 + v), nD w, .lst []]) (g_sh (e_tup (xs := [nD (1 + v), nD w, .lst []]) (e_cons (st1 := st1) (e_op (x := .int 1) (y := nD v) (st1 := st) (st2 := st1) e_con (e_call (xs := [.row, nD m]) (st1 := st) ?_ rfl t1) ?_) (e_cons (st1 := st2) (e_call (xs := [.row, nD 6]) (st1 := st1) ?_ rfl t2) (e_cons0 rfl e_nil))) (by show 3 ≤ SZ; decide))) rfl) (q_step (n := hallB) (st1 := st3) e1 (q_ret ?_)))
  · walk_at "evs"
  · show some (D.int (1 + (v : Int))) = some (D.int ((1 + v : Nat) : Int))
    rw [show ((1 + v : Nat) : Int) = 1 + (v : Int) by omega]
  · walk_at "evs"
  · refine e_tup (xs := [nD (1 + v), .tup ((prs (1 + v) (gOf L)).map pD)]) (e_cons0 rfl (e_cons0 (e_blt0 (xs := [.lst ((prs (1 + v) (gOf L)).map pD)]) (e_cons0 (e_lst (e_fblt0 (xs := [.lst (L.map pD)]) (e_cons0 rfl e_nil) (sort_gOf nd hL (Nat.le_trans hl (by decide))))) e_nil) rfl) e_nil)) (by show 2 ≤ SZ; decide)
end LW

namespace LW
/-! ### halls as lists of pairs -/
abbrev Nd := List (Nat × Nat)
def lD (n : Nat) (L : Nd) : D := .tup [nD n, .tup (L.map pD)]
def vL (n : Nat) (L : Nd) : Prop := prs n (gOf L) = L
def Tn (n x : Nat) (L : Nd) : Nd := prs n (turnG x (gOf L))
theorem gOf_prs {n : Nat} {G : Nat → Nat → Bool} (g : Gr G) {a b : Nat} (ha : a < n) (hb : b < n) : gOf (prs n G) a b = G a b := by
  have h1 := mem_prs (n := n) (G := G) (p := (a, b))
  have h2 := mem_prs (n := n) (G := G) (p := (b, a))
  have hs := g.sym a b
  have hi := g.irr a
  rcases Nat.lt_trichotomy a b with h | h | h
  · unfold gOf
    rw [decide_eq_false (p := (b, a) ∈ prs n G) (fun z => by have := (h2.mp z).1; simp at this; omega), Bool.or_false]
    cases hg : G a b with
    | true => exact decide_eq_true (h1.mpr ⟨⟨h, hb⟩, hg⟩)
    | false => exact decide_eq_false fun z => by have := (h1.mp z).2; simp [hg] at this
  · subst h
    rw [hi]
    unfold gOf
    rw [decide_eq_false (p := (a, a) ∈ prs n G) (fun z => by have := (h1.mp z).1; simp at this)]
    rfl
  · unfold gOf
    rw [decide_eq_false (p := (a, b) ∈ prs n G) (fun z => by have := (h1.mp z).1; simp at this; omega), Bool.false_or]
    cases hg : G a b with
    | true => exact decide_eq_true (h2.mpr ⟨⟨h, ha⟩, by rw [← hs]; exact hg⟩)
    | false => exact decide_eq_false fun z => by have := (h2.mp z).2; simp [← hs, hg] at this
theorem turn_congr {n x a b : Nat} {G G' : Nat → Nat → Bool} (h : ∀ a b, a < n → b < n → G a b = G' a b) (hx : x < n) (ha : a < n) (hb : b < n) : turnG x G a b = turnG x G' a b := by
  unfold turnG
  rw [h a b ha hb, h x a hx ha, h x b hx hb]
theorem vL_prs {n : Nat} {G : Nat → Nat → Bool} (g : Gr G) : vL n (prs n G) := prs_congr fun a b h1 h2 => gOf_prs g (Nat.lt_trans h1 h2) h2
theorem lD_prs {n : Nat} {G : Nat → Nat → Bool} : hD n G = lD n (prs n G) := rfl
theorem vL_gr {n : Nat} {L : Nd} (h : vL n L) : Gr (gOf L) := gOf_gr fun p hp => by rw [← h] at hp; exact (mem_prs.mp hp).1.1
theorem lD_hD {n : Nat} {L : Nd} (h : vL n L) : lD n L = hD n (gOf L) := by unfold lD hD; rw [show prs n (gOf L) = L from h]
theorem vL_T {n x : Nat} {L : Nd} (h : vL n L) : vL n (Tn n x L) := vL_prs ((vL_gr h).turn x)
theorem T_prs {n x : Nat} {G : Nat → Nat → Bool} (g : Gr G) (hx : x < n) : Tn n x (prs n G) = prs n (turnG x G) :=
  prs_congr fun a b h1 h2 => turn_congr (fun a b ha hb => gOf_prs g ha hb) hx (Nat.lt_trans h1 h2) h2
theorem T_T {n x : Nat} {L : Nd} (h : vL n L) (hx : x < n) : Tn n x (Tn n x L) = L := by
  unfold Tn
  have e : prs n (turnG x (gOf (prs n (turnG x (gOf L))))) = prs n (turnG x (turnG x (gOf L))) := prs_congr fun a b h1 h2 => turn_congr (fun a b ha hb => gOf_prs ((vL_gr h).turn x) ha hb) hx (Nat.lt_trans h1 h2) h2
  rw [e]
  exact (prs_congr fun a b _ _ => turn_turn (vL_gr h) x a b).trans h
/-! ### what is reached in so many turns -/
def Rch (n : Nat) (a : Nd) : Nat → Nd → Prop
  | 0, b => b = a
  | j + 1, b => ∃ c x, x < n ∧ Rch n a j c ∧ b = Tn n x c
theorem rch_v {n : Nat} {a : Nd} (ha : vL n a) : ∀ {j : Nat} {b : Nd}, Rch n a j b → vL n b
  | 0, _, h => by rw [show _ = a from h]; exact ha
  | j + 1, _, ⟨c, x, _, h, e⟩ => by rw [e]; exact vL_T (rch_v ha h)
theorem rch_front {n x : Nat} {a : Nd} (hx : x < n) : ∀ {j : Nat} {b : Nd}, Rch n (Tn n x a) j b → Rch n a (j + 1) b
  | 0, b, h => ⟨a, x, hx, rfl, h⟩
  | j + 1, b, ⟨c, y, hy, h, e⟩ => ⟨c, y, hy, rch_front hx h, e⟩
theorem rch_sym {n : Nat} : ∀ {j : Nat} {a b : Nd}, vL n a → Rch n a j b → Rch n b j a
  | 0, _, _, _, h => Eq.symm h
  | j + 1, a, b, ha, ⟨c, x, hx, h, e⟩ => by
    have hc := rch_v ha h
    have := rch_sym ha h
    rw [show c = Tn n x b by rw [e, T_T hc hx]] at this
    exact rch_front hx this
/-! ### the walk by layers -/
def newB : List Nd → List Nd → List Nd
  | _, [] => []
  | ks, c :: cs => if c ∈ ks then newB ks cs else c :: newB (ks ++ [c]) cs
theorem new_mem : ∀ {cs ks : List Nd} {c : Nd}, c ∈ newB ks cs → c ∈ cs ∧ c ∉ ks
  | [], _, _, h => by simp [newB] at h
  | d :: cs, ks, c, h => by
    unfold newB at h
    split at h
    · exact ⟨List.mem_cons_of_mem _ (new_mem h).1, (new_mem h).2⟩
    · rename_i hd
      rcases List.mem_cons.mp h with h | h
      · subst h; exact ⟨List.mem_cons_self, hd⟩
      · have := new_mem h
        exact ⟨List.mem_cons_of_mem _ this.1, fun z => this.2 (List.mem_append_left _ z)⟩
theorem new_all : ∀ {cs ks : List Nd} {c : Nd}, c ∈ cs → c ∈ ks ∨ c ∈ newB ks cs
  | [], _, _, h => by simp at h
  | d :: cs, ks, c, h => by
    unfold newB
    split
    · rename_i hd
      rcases List.mem_cons.mp h with h | h
      · subst h; exact .inl hd
      · exact new_all h
    · rcases List.mem_cons.mp h with h | h
      · subst h; exact .inr List.mem_cons_self
      · rcases new_all (ks := ks ++ [d]) h with z | z
        · rcases List.mem_append.mp z with z | z
          · exact .inl z
          · rw [List.mem_singleton.mp z]; exact .inr List.mem_cons_self
        · exact .inr (List.mem_cons_of_mem _ z)
theorem new_nodup : ∀ {cs ks : List Nd}, (newB ks cs).Nodup
  | [], _ => List.nodup_nil
  | d :: cs, ks => by
    unfold newB
    split
    · exact new_nodup
    · exact List.nodup_cons.mpr ⟨fun z => (new_mem z).2 (List.mem_append_right _ (List.mem_singleton.mpr rfl)), new_nodup⟩
abbrev Mp := List (Nd × Nat)
def insB (k : Nat) (q : Mp × List Nd) (c : Nd) : Mp × List Nd := if c ∈ q.1.map (·.1) then q else (q.1 ++ [(c, k)], q.2 ++ [c])
theorem ins_fold {k : Nat} : ∀ {cs : List Nd} {M : Mp} {bs : List Nd}, cs.foldl (insB k) (M, bs) = (M ++ (newB (M.map (·.1)) cs).map (fun c => (c, k)), bs ++ newB (M.map (·.1)) cs)
  | [], M, bs => by simp [newB]
  | c :: cs, M, bs => by
    rw [List.foldl_cons]
    unfold insB newB
    by_cases h : c ∈ M.map (·.1)
    · rw [if_pos h, if_pos h, ← ins_fold]; rfl
    · rw [if_neg h, if_neg h]
      have := ins_fold (k := k) (cs := cs) (M := M ++ [(c, k)]) (bs := bs ++ [c])
      rw [List.map_append, List.map_cons, List.map_nil] at this
      refine Eq.trans this ?_
      simp
def nbsB (n : Nat) (L : Nd) : List Nd := (List.range n).map fun x => Tn n x L
def layB (n k : Nat) (here : List Nd) (M : Mp) : Mp × List Nd := (here.flatMap (nbsB n)).foldl (insB k) (M, [])
def loopB (n : Nat) : Nat → Nat → List Nd → Mp → Mp
  | 0, _, _, M => M
  | f + 1, k, here, M => if here = [] then M else loopB n f (k + 1) (layB n (k + 1) here M).2 (layB n (k + 1) here M).1
structure InvB (n : Nat) (a : Nd) (k : Nat) (here : List Nd) (M : Mp) : Prop where
  nd : (M.map (·.1)).Nodup
  ok : ∀ b j, (b, j) ∈ M → j ≤ k ∧ Rch n a j b ∧ ∀ i, i < j → ¬ Rch n a i b
  all : ∀ b i, i ≤ k → Rch n a i b → b ∈ M.map (·.1)
  hr : ∀ b, b ∈ here ↔ (b, k) ∈ M
theorem inv_start {n : Nat} {a : Nd} : InvB n a 0 [a] [(a, 0)] where
  nd := by simp
  ok b j h := by
    obtain ⟨rfl, rfl⟩ : b = a ∧ j = 0 := by simpa using h
    exact ⟨Nat.le_refl _, rfl, fun i hi => absurd hi (Nat.not_lt_zero _)⟩
  all b i hi h := by
    have : i = 0 := by omega
    subst this
    rw [show b = a from h]
    simp
  hr b := by simp
theorem inv_lay {n k : Nat} {a : Nd} {here : List Nd} {M : Mp} (I : InvB n a k here M) : InvB n a (k + 1) (layB n (k + 1) here M).2 (layB n (k + 1) here M).1 := by
  have e := ins_fold (k := k + 1) (cs := here.flatMap (nbsB n)) (M := M) (bs := [])
  unfold layB
  rw [e]
  have step : ∀ c, c ∈ here.flatMap (nbsB n) → Rch n a (k + 1) c := fun c h => by
    obtain ⟨d, hd, hc⟩ := List.mem_flatMap.mp h
    obtain ⟨x, hx, rfl⟩ := List.mem_map.mp hc
    exact ⟨d, x, List.mem_range.mp hx, (I.ok d k ((I.hr d).mp hd)).2.1, rfl⟩
  have kn : ∀ b i, i ≤ k + 1 → Rch n a i b → b ∈ M.map (·.1) ∨ b ∈ newB (M.map (·.1)) (here.flatMap (nbsB n)) := fun b i hi h => by
    by_cases hk : i ≤ k
    · exact .inl (I.all b i hk h)
    · have : i = k + 1 := by omega
      subst this
      obtain ⟨c, x, hx, hc, rfl⟩ := h
      have := I.all c k (Nat.le_refl _) hc
      obtain ⟨⟨c', j⟩, hq, e⟩ := List.mem_map.mp this
      have e : c' = c := e
      subst e
      obtain ⟨h1, h2, h3⟩ := I.ok c' j hq
      by_cases hj : j = k
      · subst hj
        exact new_all (List.mem_flatMap.mpr ⟨c', (I.hr c').mpr hq, List.mem_map.mpr ⟨x, List.mem_range.mpr hx, rfl⟩⟩)
      · exact .inl (I.all _ (j + 1) (by omega) ⟨c', x, hx, h2, rfl⟩)
  refine ⟨?_, fun b j h => ?_, fun b i hi h => ?_, fun b => ?_⟩
  · show (List.map (·.1) (M ++ (newB _ _).map _)).Nodup
    rw [List.map_append, List.map_map]
    have e2 : List.map ((fun x : Nd × Nat => x.1) ∘ fun c => (c, k + 1)) (newB (M.map (·.1)) (here.flatMap (nbsB n))) = newB (M.map (·.1)) (here.flatMap (nbsB n)) := by
      conv => rhs; rw [← List.map_id (newB (M.map (·.1)) (here.flatMap (nbsB n)))]
      rfl
    rw [e2]
    exact List.nodup_append.mpr ⟨I.nd, new_nodup, fun x hx y hy e => (new_mem hy).2 (by rw [← e]; exact hx)⟩
  · rcases List.mem_append.mp h with h | h
    · obtain ⟨h1, h2⟩ := I.ok b j h
      exact ⟨by omega, h2⟩
    · obtain ⟨c, hc, e⟩ := List.mem_map.mp h
      cases e
      obtain ⟨h1, h2⟩ := new_mem hc
      exact ⟨Nat.le_refl _, step _ h1, fun i hi z => h2 (I.all _ i (by omega) z)⟩
  · show b ∈ List.map (·.1) (M ++ _)
    rw [List.map_append, List.mem_append]
    rcases kn b i hi h with z | z
    · exact .inl z
    · exact .inr (List.mem_map.mpr ⟨(b, k + 1), List.mem_map.mpr ⟨b, z, rfl⟩, rfl⟩)
  · show b ∈ [] ++ newB _ _ ↔ (b, k + 1) ∈ M ++ _
    rw [List.nil_append, List.mem_append]
    constructor
    · exact fun h => .inr (List.mem_map.mpr ⟨b, h, rfl⟩)
    · rintro (h | h)
      · have := (I.ok b _ h).1; omega
      · obtain ⟨c, hc, e⟩ := List.mem_map.mp h
        cases e
        exact hc
/-- the end: all that is reached, by the fewest turns -/
structure Far (n : Nat) (a : Nd) (M : Mp) : Prop where
  nd : (M.map (·.1)).Nodup
  ok : ∀ b j, (b, j) ∈ M → Rch n a j b ∧ ∀ i, i < j → ¬ Rch n a i b
  all : ∀ b i, Rch n a i b → b ∈ M.map (·.1)
theorem inv_far {n k : Nat} {a : Nd} {M : Mp} (I : InvB n a k [] M) : Far n a M := by
  refine ⟨I.nd, fun b j h => (I.ok b j h).2, fun b i h => ?_⟩
  induction i generalizing b with
  | zero => exact I.all b 0 (Nat.zero_le _) h
  | succ i ih =>
    obtain ⟨c, x, hx, hc, rfl⟩ := h
    obtain ⟨⟨c', j⟩, hq, e⟩ := List.mem_map.mp (ih c hc)
    have e : c' = c := e
    subst e
    obtain ⟨h1, h2, _⟩ := I.ok c' j hq
    have : j ≠ k := fun z => by subst z; have := (I.hr c').mpr hq; simp at this
    exact I.all _ (j + 1) (by omega) ⟨c', x, hx, h2, rfl⟩
/-! ### there are few halls -/
def subs {α : Type} : List α → List (List α)
  | [] => [[]]
  | p :: ps => subs ps ++ (subs ps).map (p :: ·)
theorem subs_len {α : Type} : ∀ (l : List α), (subs l).length = 2 ^ l.length
  | [] => rfl
  | p :: ps => by rw [subs, List.length_append, List.length_map, subs_len ps, List.length_cons, Nat.pow_succ]; omega
theorem filter_subs {α : Type} (P : α → Bool) : ∀ (l : List α), l.filter P ∈ subs l
  | [] => by simp [subs]
  | p :: ps => by
    rw [subs, List.mem_append]
    cases h : P p with
    | true => rw [List.filter_cons_of_pos h]; exact .inr (List.mem_map.mpr ⟨_, filter_subs P ps, rfl⟩)
    | false => rw [List.filter_cons_of_neg (by rw [h]; exact Bool.false_ne_true)]; exact .inl (filter_subs P ps)
theorem nodup_le {α : Type} [DecidableEq α] : ∀ {l U : List α}, l.Nodup → (∀ x ∈ l, x ∈ U) → l.length ≤ U.length
  | [], _, _, _ => Nat.zero_le _
  | x :: l, U, nd, h => by
    rw [List.nodup_cons] at nd
    have hx := h x List.mem_cons_self
    have ih := nodup_le (U := U.erase x) nd.2 fun y hy => (List.mem_erase_of_ne (fun e => nd.1 (by rw [← e]; exact hy))).mpr (h y (List.mem_cons_of_mem _ hy))
    rw [List.length_erase_of_mem hx] at ih
    have := List.length_pos_of_mem hx
    rw [List.length_cons]
    omega
theorem pairsN_few {n : Nat} (h : n ≤ 5) : (pairsN n).length ≤ 10 := by
  have : n = 0 ∨ n = 1 ∨ n = 2 ∨ n = 3 ∨ n = 4 ∨ n = 5 := by omega
  rcases this with rfl | rfl | rfl | rfl | rfl | rfl <;> decide
theorem few {n k : Nat} {a : Nd} {here : List Nd} {M : Mp} (ha : vL n a) (hn : n ≤ 5) (I : InvB n a k here M) : M.length ≤ 1024 := by
  have h := nodup_le (U := subs (pairsN n)) I.nd fun L hL => by
    obtain ⟨⟨b, j⟩, hq, e⟩ := List.mem_map.mp hL
    have e : b = L := e
    subst e
    have := rch_v ha (I.ok b j hq).2.1
    rw [← show prs n (gOf b) = b from this]
    exact filter_subs _ _
  rw [List.length_map, subs_len] at h
  have := Nat.pow_le_pow_right (n := 2) (by decide) (pairsN_few hn)
  have e : 2 ^ 10 = 1024 := by decide
  omega
theorem loop_far {n : Nat} {a : Nd} (ha : vL n a) (hn : n ≤ 5) : ∀ (f k : Nat) (here : List Nd) (M : Mp), InvB n a k here M → (if here = [] then 1 else 1026 - M.length) ≤ f → Far n a (loopB n f k here M)
  | 0, k, here, M, I, h => by
    have := few ha hn I
    split at h <;> omega
  | f + 1, k, here, M, I, h => by
    unfold loopB
    by_cases hh : here = []
    · rw [if_pos hh]; subst hh; exact inv_far I
    · rw [if_neg hh] at h ⊢
      have I2 := inv_lay I
      have b1 := few ha hn I
      have b2 := few ha hn I2
      refine loop_far ha hn f (k + 1) _ _ I2 ?_
      have e := ins_fold (k := k + 1) (cs := here.flatMap (nbsB n)) (M := M) (bs := [])
      have e1 : (layB n (k + 1) here M).1.length = M.length + (layB n (k + 1) here M).2.length := by
        unfold layB
        rw [e]
        simp
      split
      · omega
      · rename_i hz
        have : (layB n (k + 1) here M).2.length ≠ 0 := fun z => hz (List.eq_nil_of_length_eq_zero z)
        omega
def bfs (n : Nat) (a : Nd) : Mp := loopB n 5000 0 [a] [(a, 0)]
theorem bfs_far {n : Nat} {a : Nd} (ha : vL n a) (hn : n ≤ 5) : Far n a (bfs n a) := loop_far ha hn _ _ _ _ inv_start (by simp)
end LW

namespace LW
variable {n x y : Nat} {G : Nat → Nat → Bool} {st : DS}
/-! ### dicts of halls -/
def dD (n : Nat) (M : Mp) : D := .dic (M.map fun q => lD n q.1) (M.map fun q => nD q.2)
theorem nks_inj : ∀ {L L' : Nd}, nkDs (L.map pD) = nkDs (L'.map pD) → L = L'
  | [], [], _ => rfl
  | [], _ :: _, h => by simp [nkDs] at h
  | _ :: _, [], h => by simp [nkDs] at h
  | p :: L, q :: L', h => by
    obtain ⟨p1, p2⟩ := p
    obtain ⟨q1, q2⟩ := q
    have h : nkD (pD (p1, p2)) = nkD (pD (q1, q2)) ∧ nkDs (L.map pD) = nkDs (L'.map pD) := by simpa [nkDs] using h
    have e := h.1
    simp only [pD, nD, nkD, nkDs, NestedKey.tup.injEq, List.cons.injEq, NestedKey.num.injEq, Int.ofNat_inj, and_true] at e
    rw [e.1, e.2, nks_inj h.2]
theorem nk_inj {L L' : Nd} (h : nkD (lD n L) = nkD (lD n L')) : L = L' := by
  unfold lD at h
  simp only [nkD, nkDs, NestedKey.tup.injEq, List.cons.injEq, and_true, true_and] at h
  exact nks_inj h
theorem same_lD {L L' : Nd} : sameK (lD n L) (lD n L') = decide (L = L') := by
  by_cases h : L = L'
  · rw [decide_eq_true h, sameK_iff, h]
  · rw [decide_eq_false h]
    cases c : sameK (lD n L) (lD n L') with
    | false => rfl
    | true => exact absurd (nk_inj (sameK_iff.mp c)) h
theorem has_lD : ∀ {M : Mp} {c : Nd}, dHas (M.map fun q => lD n q.1) (lD n c) = decide (c ∈ M.map (·.1))
  | [], c => by simp [dHas]
  | q :: M, c => by
    rw [List.map_cons, dHas, has_lD, same_lD, List.map_cons]
    by_cases h1 : q.1 = c
    · simp [h1]
    · by_cases h2 : c ∈ M.map (·.1)
      · simp [h2]
      · simp [h1, h2, Ne.symm h1]
theorem get_lD : ∀ {M : Mp} {c : Nd} {j : Nat}, (M.map (·.1)).Nodup → (c, j) ∈ M → dGetD (M.map fun q => lD n q.1) (M.map fun q => nD q.2) (lD n c) = some (nD j)
  | [], c, j, _, h => by simp at h
  | q :: M, c, j, nd, h => by
    rw [List.map_cons, List.nodup_cons] at nd
    rw [List.map_cons, List.map_cons, dGetD, same_lD]
    rcases List.mem_cons.mp h with h | h
    · subst h; simp
    · have : q.1 ≠ c := fun e => nd.1 (by rw [e]; exact List.mem_map.mpr ⟨_, h, rfl⟩)
      rw [decide_eq_false this, if_neg Bool.false_ne_true]
      exact get_lD nd.2 h
theorem putW_lD : ∀ {M : Mp} {c : Nd} {v : D}, c ∉ M.map (·.1) → dPutW (M.map fun q => lD n q.1) (M.map fun q => nD q.2) (lD n c) v = (M.map fun q => nD q.2) ++ [v]
  | [], c, v, _ => rfl
  | q :: M, c, v, h => by
    rw [List.map_cons, List.mem_cons, not_or] at h
    rw [List.map_cons, List.map_cons, dPutW, same_lD, decide_eq_false (fun e => h.1 e.symm), if_neg Bool.false_ne_true, putW_lD h.2]
    rfl
theorem put_lD {M : Mp} {c : Nd} {k : Nat} (h : c ∉ M.map (·.1)) : D.dic (dPutK (M.map fun q => lD n q.1) (lD n c)) (dPutW (M.map fun q => lD n q.1) (M.map fun q => nD q.2) (lD n c) (nD k)) = dD n (M ++ [(c, k)]) := by
  rw [dPutK_new (by rw [has_lD]; exact decide_eq_false h), putW_lD h]
  unfold dD
  simp
theorem koks_p {k : Nat} : ∀ (L : Nd), D.koks (k + 1) (L.map pD) = true
  | [] => by simp [D.koks]
  | p :: L => by simp [D.koks, koks_p L, pD, nD, D.kok]
theorem tkey_lD {L : Nd} : (lD n L).tkey = true := by
  unfold lD D.tkey
  simp [D.kok, D.koks, nD, koks_p]
theorem tkeys_lD {α : Type} {f : α → Nd} : ∀ (l : List α), (l.map fun q => lD n (f q)).all D.tkey = true
  | [] => rfl
  | q :: l => by rw [List.map_cons, List.all_cons, tkey_lD, tkeys_lD l]; rfl
theorem kok_lD {M : Mp} {c : Nd} : kOk (M.map fun q => lD n q.1) (lD n c) = true := by
  unfold kOk
  rw [tkey_lD, tkeys_lD]
  simp
theorem in_lD {neg : Bool} {M : Mp} {c : Nd} : xInD neg (lD n c) (dD n M) = some (.bl (neg ^^ decide (c ∈ M.map (·.1)))) := by
  show (if kOk _ _ = true then some (D.bl (neg ^^ dHas _ _)) else none) = _
  rw [if_pos kok_lD, has_lD]
theorem ix_lD {M : Mp} {c : Nd} {j : Nat} (nd : (M.map (·.1)).Nodup) (h : (c, j) ∈ M) : xIxDic (dD n M) (lD n c) = some (nD j) := by
  show (if kOk _ _ = true then _ else _) = _
  rw [if_pos kok_lD]
  exact get_lD nd h
theorem nl_at {ρ : SE} {i : Nat} {o : Option (Kd × D)} (h : ρ[i]? = some o) (ho : okS o) : notLent ρ i = true := by
  unfold notLent
  split
  · rename_i d e
    rw [h] at e
    cases e
    exact absurd rfl (ho d)
  · rfl
/-- in the midst of a layer -/
structure Mid (n : Nat) (M : Mp) (bs : List Nd) : Prop where
  nd : (M.map (·.1)).Nodup
  v : ∀ b ∈ M.map (·.1), vL n b
  le : bs.length ≤ M.length
theorem mid_few {M : Mp} {bs : List Nd} (hn : n ≤ 5) (I : Mid n M bs) : M.length ≤ 1024 ∧ bs.length ≤ 1024 := by
  have h := nodup_le (U := subs (pairsN n)) I.nd fun L hL => by
    rw [← show prs n (gOf L) = L from I.v L hL]
    exact filter_subs _ _
  rw [List.length_map, subs_len] at h
  have := Nat.pow_le_pow_right (n := 2) (by decide) (pairsN_few hn)
  have e : 2 ^ 10 = 1024 := by decide
  have := I.le
  omega
theorem mid_ins {M : Mp} {bs : List Nd} {k : Nat} {c : Nd} (I : Mid n M bs) (hc : vL n c) : Mid n (insB k (M, bs) c).1 (insB k (M, bs) c).2 := by
  unfold insB
  by_cases h : c ∈ M.map (·.1)
  · rw [if_pos h]; exact I
  · rw [if_neg h]
    refine ⟨?_, fun b hb => ?_, by simp [I.le]⟩
    · show (List.map (·.1) (M ++ [(c, k)])).Nodup
      rw [List.map_append]
      exact List.nodup_append.mpr ⟨I.nd, by simp, fun a ha b hb e => h (by simp at hb; rw [← hb, ← e]; exact ha)⟩
    · have hb : b ∈ List.map (·.1) (M ++ [(c, k)]) := hb
      rw [List.map_append, List.mem_append] at hb
      rcases hb with hb | hb
      · exact I.v b hb
      · simp at hb; rw [hb]; exact hc
theorem ins_keep {M : Mp} {bs : List Nd} {k : Nat} {c : Nd} {q : Nd × Nat} (h : q ∈ M) : q ∈ (insB k (M, bs) c).1 := by
  unfold insB
  split
  · exact h
  · exact List.mem_append_left _ h
end LW

namespace LW
variable {n x y : Nat} {G : Nat → Nat → Bool} {st : DS}
theorem bt_lD {L : Nd} (h : vL n L) (hn : n ≤ 8) (hx : x < n) : f_behind_turn [lD n L, nD x] st = .ok (lD n (Tn n x L)) st := by
  rw [lD_hD h]
  exact behind_turn_eq (vL_gr h) hn hx
theorem lt_lD {L : Nd} (h : vL n L) (hn : n ≤ 8) (hx : x < n) : f__law_turn [lD n L, nD x] st = .ok (lD n (Tn n x L)) st := by
  rw [lD_hD h]
  exact law_turn_eq (vL_gr h) hn hx
theorem pure_lD {L : Nd} : (lD n L).pure = true := by
  have : ∀ (l : Nd), D.pures (l.map pD) = true := fun l => pures_map fun _ _ => rfl
  simp [lD, D.pure, D.pures, nD, this]
theorem pures_nD (l : List Nat) : D.pures (l.map nD) = true := pures_map fun _ _ => rfl
theorem pures_lD {l : List Nd} : D.pures (l.map (lD n)) = true := pures_map fun _ _ => pure_lD
theorem nb_lD {L : Nd} : (lD n L).nb 3 = true := by
  have := nb_ps L
  simp [lD, D.nb, D.nbs, nD, this]
theorem x_neNil {k : Nat} {xs : List D} (h : D.nbs k xs = true) (hk : k ≤ 63) : xNe (.lst xs) (.lst []) = some (.bl (!xs.isEmpty)) := by
  have h1 : (D.lst xs).nb (k + 1) = true := h
  rw [x_ne (k := k + 1) (l := 1) h1 rfl (by omega) (by decide)]
  congr 2
  cases xs with
  | nil =>
    rw [Bool.not_eq_eq_eq_not]
    exact @decide_eq_true _ (_) rfl
  | cons a as =>
    rw [Bool.not_eq_eq_eq_not]
    exact @decide_eq_false _ (_) (by simp)
theorem fold_mid {k : Nat} : ∀ (cs : List Nd) (M : Mp) (bs : List Nd), Mid n M bs → (∀ c ∈ cs, vL n c) → Mid n (cs.foldl (insB k) (M, bs)).1 (cs.foldl (insB k) (M, bs)).2 ∧ ∀ q ∈ M, q ∈ (cs.foldl (insB k) (M, bs)).1
  | [], M, bs, I, _ => ⟨I, fun _ h => h⟩
  | c :: cs, M, bs, I, h => by
    have := fold_mid (k := k) cs (insB k (M, bs) c).1 (insB k (M, bs) c).2 (mid_ins I (h c List.mem_cons_self)) fun d hd => h d (List.mem_cons_of_mem _ hd)
    exact ⟨this.1, fun q hq => this.2 q (ins_keep hq)⟩
theorem inv_mid {a : Nd} {here : List Nd} {M : Mp} {k : Nat} (ha : vL n a) (I : InvB n a k here M) : (∀ c ∈ here, vL n c ∧ (c, k) ∈ M) ∧ Mid n M [] := by
  have v : ∀ b ∈ M.map (·.1), vL n b := fun b hb => by
    obtain ⟨⟨c, j⟩, hq, e⟩ := List.mem_map.mp hb
    have e : c = b := e
    subst e
    exact rch_v ha (I.ok c j hq).2.1
  refine ⟨fun c hc => ?_, I.nd, v, Nat.zero_le _⟩
  have := (I.hr c).mp hc
  exact ⟨v c (List.mem_map.mpr ⟨_, this, rfl⟩), this⟩
end LW

namespace LW
variable {n x y : Nat} {G : Nat → Nat → Bool} {st : DS}
/-! ### the class -/
def cdE (n : Nat) (a : Nd) (m : Nat) (M : Mp) (here bs : List Nd) (o p q : Option (Kd × D)) : SE := [some (.sh, lD n a), some (.own, dD n M), some (.sh, .lst (here.map (lD n))), some (.sh, nD m), some (.own, .lst (bs.map (lD n))), o, p, q]
def cdBody : SM := sSeq (sSetS 7 (cCallN 2 f__law_turn (aCons (cVar 5) (aCons (cVar 6) (aNil)))))
  (sIf (cTest (cOp (xInD true) (cVar 7) (cVar 1)))
  (sSeq (sSubD 1 (cVar 7) (gSh (cVar 3)))
  (sExprG (gAppend 4 (gSh (cVar 7)))))
  (sNop))
theorem cd_body {a one : Nd} {M : Mp} {here bs : List Nd} {k : Nat} {q : Option (Kd × D)} (hn : n ≤ 5) (I : Mid n M bs) (h1 : (one, k) ∈ M) (ho : vL n one) (hx : x < n) (hq : okS q) :
    cdBody (cdE n a (k + 1) M here bs (some (.sh, lD n one)) (some (.sh, nD x)) q) st = .ok (.nx, cdE n a (k + 1) (insB (k + 1) (M, bs) (Tn n x one)).1 here (insB (k + 1) (M, bs) (Tn n x one)).2 (some (.sh, lD n one)) (some (.sh, nD x)) (some (.sh, lD n (Tn n x one)))) st := by
  unfold cdBody
  refine s_seq (ρ' := cdE n a (k + 1) M here bs (some (.sh, lD n one)) (some (.sh, nD x)) (some (.sh, lD n (Tn n x one)))) (st1 := st) (s_setS (e_call0 (xs := [lD n one, nD x]) rfl rfl (lt_lD ho (by omega) hx)) (nl_at (o := q) rfl hq)) ?_
  have hc : cTest (cOp (xInD true) (cVar 7) (cVar 1)) (er (cdE n a (k + 1) M here bs (some (.sh, lD n one)) (some (.sh, nD x)) (some (.sh, lD n (Tn n x one))))) st = .ok (true ^^ decide (Tn n x one ∈ M.map (·.1))) st :=
    t_test (e_op0 (x := lD n (Tn n x one)) (y := dD n M) rfl rfl in_lD)
  unfold insB
  by_cases h : Tn n x one ∈ M.map (·.1)
  · rw [if_pos h]
    exact s_ifF hc (by rw [decide_eq_true h]; rfl) rfl
  · rw [if_neg h]
    refine s_ifT hc (by rw [decide_eq_false h]; rfl) ?_
    obtain ⟨f1, f2⟩ := mid_few hn I
    have e1 : sSubD 1 (cVar 7) (gSh (cVar 3)) (cdE n a (k + 1) M here bs (some (.sh, lD n one)) (some (.sh, nD x)) (some (.sh, lD n (Tn n x one)))) st = .ok (.nx, cdE n a (k + 1) (M ++ [(Tn n x one, k + 1)]) here bs (some (.sh, lD n one)) (some (.sh, nD x)) (some (.sh, lD n (Tn n x one)))) st := by
      unfold sSubD
      show (if kOk (M.map fun q => lD n q.1) (lD n (Tn n x one)) = true ∧ (M.map fun q => lD n q.1).length < SZ then (.ok (.nx, _) st : SR) else .stuck) = _
      rw [if_pos ⟨kok_lD, by rw [List.length_map]; show _ < 16777216; omega⟩]
      have := put_lD (n := n) (M := M) (k := k + 1) h
      show (Res.ok (Flo.nx, [_, some (Kd.own, _), _, _, _, _, _, _]) st : SR) = _
      rw [this]
      rfl
    refine s_seq e1 (s_exprG (d := .non) ?_)
    refine (g_append (xs := bs.map (lD n)) (zs := bs.map (lD n)) (gm := gSh (cVar 7)) (d := lD n (Tn n x one)) rfl (g_sh rfl) rfl (by rw [List.length_map]; show _ < 16777216; omega)).trans ?_
    unfold cdE
    rw [List.map_append]
    rfl
theorem cd_for {a one : Nd} {here : List Nd} {k : Nat} (hn : n ≤ 5) (ho : vL n one) : ∀ (xs : List Nat) (M : Mp) (bs : List Nd) (p q : Option (Kd × D)), (∀ x ∈ xs, x < n) → Mid n M bs → (one, k) ∈ M → okS p → okS q →
    ∃ p' q', okS p' ∧ okS q' ∧ forL (.nm 6) cdBody (xs.map nD) (cdE n a (k + 1) M here bs (some (.sh, lD n one)) p q) st = .ok (.nx, cdE n a (k + 1) ((xs.map fun x => Tn n x one).foldl (insB (k + 1)) (M, bs)).1 here ((xs.map fun x => Tn n x one).foldl (insB (k + 1)) (M, bs)).2 (some (.sh, lD n one)) p' q') st
  | [], M, bs, p, q, _, _, _, hp, hq => ⟨p, q, hp, hq, rfl⟩
  | x :: xs, M, bs, p, q, hx, I, h1, hp, hq => by
    have hxn := hx x List.mem_cons_self
    obtain ⟨p', q', hp', hq', e⟩ := cd_for hn ho xs (insB (k + 1) (M, bs) (Tn n x one)).1 (insB (k + 1) (M, bs) (Tn n x one)).2 (some (.sh, nD x)) (some (.sh, lD n (Tn n x one))) (fun y hy => hx y (List.mem_cons_of_mem _ hy)) (mid_ins I (vL_T ho)) (ins_keep h1) okS_sh okS_sh
    refine ⟨p', q', hp', hq', ?_⟩
    rw [List.map_cons]
    unfold forL
    rw [bind_at (o := p) rfl hp]
    show (cdBody (cdE n a (k + 1) M here bs (some (.sh, lD n one)) (some (.sh, nD x)) q) st).bind _ = _
    rw [cd_body hn I h1 ho hxn hq]
    exact e
def cdFor : SM := sFor0 (iRange1 (aCons (cOp xIx (cVar 0) (cCon (.int 0))) (aNil))) (.nm 6) cdBody
theorem cd_layer {a : Nd} {here : List Nd} {k : Nat} (hn : n ≤ 5) : ∀ (os : List Nd) (M : Mp) (bs : List Nd) (o p q : Option (Kd × D)), (∀ c ∈ os, vL n c ∧ (c, k) ∈ M) → Mid n M bs → okS o → okS p → okS q →
    ∃ o' p' q', okS o' ∧ okS p' ∧ okS q' ∧ forL (.nm 5) cdFor (os.map (lD n)) (cdE n a (k + 1) M here bs o p q) st = .ok (.nx, cdE n a (k + 1) ((os.flatMap (nbsB n)).foldl (insB (k + 1)) (M, bs)).1 here ((os.flatMap (nbsB n)).foldl (insB (k + 1)) (M, bs)).2 o' p' q') st
  | [], M, bs, o, p, q, _, _, ho, hp, hq => ⟨o, p, q, ho, hp, hq, rfl⟩
  | c :: os, M, bs, o, p, q, h, I, ho, hp, hq => by
    obtain ⟨hc, hm⟩ := h c List.mem_cons_self
    obtain ⟨p1, q1, hp1, hq1, e1⟩ := cd_for (a := a) (here := here) (st := st) hn hc (List.range n) M bs p q (fun x hx => List.mem_range.mp hx) I hm hp hq
    obtain ⟨I1, k1⟩ := fold_mid (k := k + 1) (nbsB n c) M bs I fun d hd => by obtain ⟨x, _, rfl⟩ := List.mem_map.mp hd; exact vL_T hc
    obtain ⟨o', p', q', ho', hp', hq', e⟩ := cd_layer hn os ((nbsB n c).foldl (insB (k + 1)) (M, bs)).1 ((nbsB n c).foldl (insB (k + 1)) (M, bs)).2 (some (.sh, lD n c)) p1 q1 (fun d hd => ⟨(h d (List.mem_cons_of_mem _ hd)).1, k1 _ (h d (List.mem_cons_of_mem _ hd)).2⟩) I1 okS_sh hp1 hq1
    refine ⟨o', p', q', ho', hp', hq', ?_⟩
    rw [List.map_cons]
    unfold forL
    rw [bind_at (o := o) rfl ho]
    show (cdFor (cdE n a (k + 1) M here bs (some (.sh, lD n c)) p q) st).bind _ = _
    have e2 : cdFor (cdE n a (k + 1) M here bs (some (.sh, lD n c)) p q) st = .ok (.nx, cdE n a (k + 1) ((nbsB n c).foldl (insB (k + 1)) (M, bs)).1 here ((nbsB n c).foldl (insB (k + 1)) (M, bs)).2 (some (.sh, lD n c)) p1 q1) st := by
      unfold cdFor
      exact s_for0 (w_rangeN (n := n) (e_cons0 (e_op0 (x := lD n a) (y := .int 0) rfl e_con (x_ixT (i := 0) rfl)) e_nil) (by omega)) (pures_nD _) e1
    rw [e2]
    rw [List.flatMap_cons, List.foldl_append]
    exact e
def cdW (n : Nat) (a : Nd) (m : Nat) (M : Mp) (here : List Nd) (r o p q : Option (Kd × D)) : SE := [some (.sh, lD n a), some (.own, dD n M), some (.sh, .lst (here.map (lD n))), some (.sh, nD m), r, o, p, q]
def cdCond : TM := cTest (cOp xNe (cVar 2) (cLst (cLim (aNil))))
def cdWhile : SM := sSeq (sPar [4, 3] (xO (cLim (aNil)) (xS (cOp xAdd (cVar 3) (cCon (.int 1))) (xNil)))) (sSeq (sFor [] (iSeq (cVar 2)) (.nm 5) cdFor) (sFrz [4] (sSetS 2 (cVar 4))))
theorem cd_cond {m : Nat} {a : Nd} {M : Mp} {here : List Nd} {r o p q : Option (Kd × D)} : cdCond (er (cdW n a m M here r o p q)) st = .ok (!here.isEmpty) st := by
  have h := x_neNil (k := 3) (xs := here.map (lD n)) (nbs_map fun _ _ => nb_lD) (by decide)
  rw [List.isEmpty_map] at h
  exact t_test (e_op0 (x := .lst (here.map (lD n))) (y := .lst []) rfl (e_lst (e_lim e_nil (by decide))) h)
theorem cd_step {a : Nd} {M : Mp} {here : List Nd} {k : Nat} {r o p q : Option (Kd × D)} (hn : n ≤ 5) (h : ∀ c ∈ here, vL n c ∧ (c, k) ∈ M) (I : Mid n M []) (hr : okS r) (ho : okS o) (hp : okS p) (hq : okS q) :
    ∃ r' o' p' q', okS r' ∧ okS o' ∧ okS p' ∧ okS q' ∧ cdWhile (cdW n a k M here r o p q) st = .ok (.nx, cdW n a (k + 1) (layB n (k + 1) here M).1 (layB n (k + 1) here M).2 r' o' p' q') st := by
  obtain ⟨o', p', q', ho', hp', hq', e⟩ := cd_layer (a := a) (here := here) (st := st) hn here M [] o p q h I ho hp hq
  refine ⟨some (.sh, .lst ((layB n (k + 1) here M).2.map (lD n))), o', p', q', okS_sh, ho', hp', hq', ?_⟩
  unfold cdWhile
  have e0 : sPar [4, 3] (xO (cLim (aNil)) (xS (cOp xAdd (cVar 3) (cCon (.int 1))) (xNil))) (cdW n a k M here r o p q) st = .ok (.nx, cdE n a (k + 1) M here [] o p q) st := s_par (l := [(.own, .lst []), (.sh, nD (k + 1))]) (x_O (xs := []) (e_lim e_nil (by decide)) rfl (x_S (e_op0 (x := nD k) (y := .int 1) rfl e_con rfl) x_nil)) ⟨rfl, rfl, by
    show (notLent (cdW n a k M here r o p q) 4 && (true && true)) = true
    rw [nl_at (o := r) rfl hr]; rfl⟩
  have e1 : sFor [] (iSeq (cVar 2)) (.nm 5) cdFor (cdE n a (k + 1) M here [] o p q) st = .ok (.nx, cdE n a (k + 1) (layB n (k + 1) here M).1 here (layB n (k + 1) here M).2 o' p' q') st :=
    s_for (ls := []) (xs := here.map (lD n)) (w_seqL rfl) (.inl pures_lD) (by
      show (forL (.nm 5) cdFor (here.map (lD n)) (cdE n a (k + 1) M here [] o p q) st).bind (fin []) = _
      rw [e]
      rfl)
  refine s_seq e0 (s_seq e1 ?_)
  exact s_setS (i := 2) (d := .lst ((layB n (k + 1) here M).2.map (lD n))) rfl rfl
theorem cd_loop {a : Nd} (ha : vL n a) (hn : n ≤ 5) : ∀ (f k : Nat) (here : List Nd) (M : Mp) (r o p q : Option (Kd × D)), InvB n a k here M → (if here = [] then 1 else 1026 - M.length) ≤ f → okS r → okS o → okS p → okS q →
    ∃ m' here' r' o' p' q', whlL cdCond cdWhile f (cdW n a k M here r o p q) st = .ok (.nx, cdW n a m' (loopB n f k here M) here' r' o' p' q') st
  | 0, k, here, M, _, _, _, _, I, h, _, _, _, _ => by
    have := few ha hn I
    split at h <;> omega
  | f + 1, k, here, M, r, o, p, q, I, h, hr, ho, hp, hq => by
    unfold whlL loopB
    rw [cd_cond]
    by_cases hh : here = []
    · subst hh
      exact ⟨k, [], r, o, p, q, rfl⟩
    · rw [if_neg hh] at h ⊢
      have hb : (!here.isEmpty) = true := by cases here with
        | nil => exact absurd rfl hh
        | cons _ _ => rfl
      have I2 := inv_lay I
      have b1 := few ha hn I
      have b2 := few ha hn I2
      obtain ⟨m1, m2⟩ := inv_mid ha I
      obtain ⟨r1, o1, p1, q1, hr1, ho1, hp1, hq1, e1⟩ := cd_step (a := a) (st := st) hn m1 m2 hr ho hp hq
      have e := ins_fold (k := k + 1) (cs := here.flatMap (nbsB n)) (M := M) (bs := [])
      have e2 : (layB n (k + 1) here M).1.length = M.length + (layB n (k + 1) here M).2.length := by
        unfold layB
        rw [e]
        simp
      obtain ⟨m', here', r', o', p', q', e3⟩ := cd_loop ha hn f (k + 1) _ _ r1 o1 p1 q1 I2 (by
        split
        · omega
        · rename_i hz
          have : (layB n (k + 1) here M).2.length ≠ 0 := fun z => hz (List.eq_nil_of_length_eq_zero z)
          omega) hr1 ho1 hp1 hq1
      refine ⟨m', here', r', o', p', q', ?_⟩
      show (if (!here.isEmpty) = true then (cdWhile (cdW n a k M here r o p q) st).bind _ else _) = _
      rw [if_pos hb, e1]
      exact e3
theorem class_eq {a : Nd} (ha : vL n a) (hn : n ≤ 5) : f__law_class [lD n a] st = .ok (dD n (bfs n a)) st := by
  obtain ⟨m', here', r', o', p', q', e⟩ := cd_loop (st := st) ha hn 5000 0 [a] [(a, 0)] none none none none inv_start (by simp) okS_none okS_none okS_none okS_none
  refine f_ret (q_step (st1 := st) (ρ' := cdW n a 0 [(a, 0)] [a] none none none none) ?_ (q_step (st1 := st) e (q_ret rfl)))
  refine s_par (l := [(.own, dD n [(a, 0)]), (.sh, .lst [lD n a]), (.sh, nD 0)]) ?_ ⟨rfl, rfl, rfl⟩
  have h : fDispT (cVar 0) (cCon (.int 0)) (er (startE 8 [lD n a])) st = .ok (dD n [(a, 0)]) st := by
    show (if (lD n a).tkey = true then (Res.ok (.dic [lD n a] [.int 0]) st : Res D) else .stuck) = _
    rw [if_pos tkey_lD]
    rfl
  have hi : isDic (dD n [(a, 0)]) = true := by
    unfold dD isDic
    simp [D.pures, pure_lD, nD, D.pure]
  unfold xOd
  rw [h]
  show (if isDic (dD n [(a, 0)]) = true then _ else _) = _
  rw [if_pos hi]
  rfl
end LW

namespace LW
variable {n x y : Nat} {G : Nat → Nat → Bool} {st : DS}
theorem x_eqN' {a b : Nat} : xEq (nD a) (nD b) = some (.bl (decide (a = b))) := by
  rw [x_eq (nb_n a) (nb_n b) (by decide) (by decide)]
  congr 2
  exact decide_eq_decide.mpr nD_inj
end LW

namespace LW
/-! ### halls that grow: pure -/
def RemP (G : Nat → Nat → Bool) (x : Nat) (W : List Nat) : Prop :=
  (∀ y ∈ W, G x y = false) ∨ ∃ u ∈ W, u ≠ x ∧ ((∀ y ∈ W, y ≠ u → G x y = false) ∨ (∀ y ∈ W, y ≠ x → y ≠ u → G x y = G u y))
inductive Red (G : Nat → Nat → Bool) : List Nat → Prop
  | one {W : List Nat} : W.length ≤ 1 → Red G W
  | step {W : List Nat} {x : Nat} : x ∈ W → RemP G x W → Red G (W.filter (· ≠ x)) → Red G W
theorem mem_wo {W : List Nat} {x y : Nat} : y ∈ W.filter (· ≠ x) ↔ y ∈ W ∧ y ≠ x := by rw [List.mem_filter]; simp
theorem nodup_len {α β : Type} [DecidableEq β] {f : α → β} {V : List β} : ∀ {W : List α}, W.Nodup → (∀ w ∈ W, f w ∈ V) → (∀ w ∈ W, ∀ w' ∈ W, f w = f w' → w = w') → W.length ≤ V.length := by
  intro W nd h inj
  have h1 : (W.map f).Nodup := by
    rw [List.nodup_iff_pairwise_ne, List.pairwise_map]
    exact List.Pairwise.imp_of_mem (fun {a b} ha hb hne e => hne (inj a ha b hb e)) nd
  rw [← List.length_map (f := f)]
  exact List.Nodup.length_le_of_subset h1 fun b hb => by
    obtain ⟨w, hw, rfl⟩ := List.mem_map.mp hb
    exact h w hw
theorem red_emb {G : Nat → Nat → Bool} {V : List Nat} (g : Gr G) (h : Red G V) : ∀ {G' : Nat → Nat → Bool} {W : List Nat} {f : Nat → Nat}, W.Nodup → (∀ w ∈ W, f w ∈ V) → (∀ w ∈ W, ∀ w' ∈ W, f w = f w' → w = w') → (∀ w ∈ W, ∀ w' ∈ W, G' w w' = G (f w) (f w')) → Red G' W := by
  induction h with
  | @one V hV =>
    intro G' W f nd hf inj _
    exact .one (Nat.le_trans (nodup_len nd hf inj) hV)
  | @step V x hx hr _ ih =>
    intro G' W f nd hf inj hG
    by_cases hw : ∃ w ∈ W, f w = x
    · obtain ⟨w, hw, rfl⟩ := hw
      have rest : Red G' (W.filter (· ≠ w)) := ih (nd.filter _) (fun y hy => by
          obtain ⟨h1, h2⟩ := mem_wo.mp hy
          exact mem_wo.mpr ⟨hf y h1, fun e => h2 (inj y h1 w hw e)⟩) (fun y hy z hz => inj y (mem_wo.mp hy).1 z (mem_wo.mp hz).1) (fun y hy z hz => hG y (mem_wo.mp hy).1 z (mem_wo.mp hz).1)
      rcases hr with hr | ⟨u, hu, hne, hr | hr⟩
      · exact .step hw (.inl fun y hy => by rw [hG w hw y hy]; exact hr _ (hf y hy)) rest
      · by_cases hu' : ∃ w' ∈ W, f w' = u
        · obtain ⟨w', hw', rfl⟩ := hu'
          refine .step hw (.inr ⟨w', hw', fun e => hne (by rw [e]), .inl fun y hy hy' => ?_⟩) rest
          rw [hG w hw y hy]
          exact hr _ (hf y hy) fun e => hy' (inj y hy w' hw' e)
        · refine .step hw (.inl fun y hy => ?_) rest
          rw [hG w hw y hy]
          exact hr _ (hf y hy) fun e => hu' ⟨y, hy, e⟩
      · by_cases hu' : ∃ w' ∈ W, f w' = u
        · obtain ⟨w', hw', rfl⟩ := hu'
          refine .step hw (.inr ⟨w', hw', fun e => hne (by rw [e]), .inr fun y hy hy1 hy2 => ?_⟩) rest
          rw [hG w hw y hy, hG w' hw' y hy]
          exact hr _ (hf y hy) (fun e => hy1 (inj y hy w hw e)) fun e => hy2 (inj y hy w' hw' e)
        · refine ih (f := fun y => if y = w then u else f y) nd (fun y hy => ?_) (fun y hy z hz e => ?_) (fun y hy z hz => ?_)
          · show (if y = w then u else f y) ∈ _
            by_cases e : y = w
            · rw [if_pos e]; exact mem_wo.mpr ⟨hu, hne⟩
            · rw [if_neg e]; exact mem_wo.mpr ⟨hf y hy, fun e' => e (inj y hy w hw e')⟩
          · have e : (if y = w then u else f y) = (if z = w then u else f z) := e
            by_cases e1 : y = w <;> by_cases e2 : z = w
            · rw [e1, e2]
            · rw [if_pos e1, if_neg e2] at e; exact absurd ⟨z, hz, e.symm⟩ hu'
            · rw [if_neg e1, if_pos e2] at e; exact absurd ⟨y, hy, e⟩ hu'
            · rw [if_neg e1, if_neg e2] at e; exact inj y hy z hz e
          · show G' y z = G (if y = w then u else f y) (if z = w then u else f z)
            have nu : ∀ z ∈ W, f z ≠ u := fun z hz e => hu' ⟨z, hz, e⟩
            by_cases e1 : y = w <;> by_cases e2 : z = w
            · rw [if_pos e1, if_pos e2, hG y hy z hz, e1, e2, g.irr, g.irr]
            · rw [if_pos e1, if_neg e2, hG y hy z hz, e1]
              exact hr _ (hf z hz) (fun e => e2 (inj z hz w hw e)) (nu z hz)
            · rw [if_neg e1, if_pos e2, hG y hy z hz, e2, g.sym, g.sym (f y)]
              exact hr _ (hf y hy) (fun e => e1 (inj y hy w hw e)) (nu y hy)
            · rw [if_neg e1, if_neg e2, hG y hy z hz]
    · exact ih nd (fun y hy => mem_wo.mpr ⟨hf y hy, fun e => hw ⟨y, hy, e⟩⟩) inj hG
theorem red_id {G G' : Nat → Nat → Bool} {V W : List Nat} (g : Gr G) (h : Red G V) (nd : W.Nodup) (hs : ∀ w ∈ W, w ∈ V) (e : ∀ a ∈ W, ∀ b ∈ W, G' a b = G a b) : Red G' W :=
  red_emb g h (f := fun y => y) nd hs (fun _ _ _ _ e => e) e
/-- turns keep it -/
theorem red_turn : ∀ (k : Nat) {G : Nat → Nat → Bool} {V : List Nat} {a : Nat}, Gr G → V.Nodup → V.length ≤ k → Red G V → a ∈ V → Red (turnG a G) V := by
  intro k
  induction k with
  | zero => intro G V a _ _ hl _ _; exact .one (by omega)
  | succ k ih =>
    intro G V a g nd hl hr ha
    cases hr with
    | one h => exact .one h
    | @step _ x hx hrem hrest =>
      have shorter : ∀ z ∈ V, (V.filter (· ≠ z)).length ≤ k := fun z hz => by
        have : (V.filter (· ≠ z)).length < V.length := List.length_filter_lt_length_iff_exists.mpr ⟨z, hz, by simp⟩
        omega
      have tn : ∀ y z, turnG a G y z = (G y z ^^ (decide (y ≠ z) && G a y && G a z)) := fun _ _ => rfl
      by_cases hax : a = x
      · subst hax
        have same : (∀ y ∈ V, ∀ z ∈ V, y ≠ z → ¬ (G a y = true ∧ G a z = true)) → Red (turnG a G) V := fun hh => red_id g (.step hx hrem hrest) nd (fun _ h => h) fun y hy z hz => by
          rw [tn]
          by_cases e : y = z
          · simp [e]
          · have := hh y hy z hz e
            cases h1 : G a y <;> cases h2 : G a z <;> simp_all
        rcases hrem with h | ⟨u, hu, hne, h | h⟩
        · exact same fun y hy z hz _ q => by rw [h y hy] at q; exact absurd q.1 (by decide)
        · refine same fun y hy z hz e q => ?_
          by_cases e1 : y = u
          · by_cases e2 : z = u
            · exact e (by rw [e1, e2])
            · rw [h z hz e2] at q; exact absurd q.2 (by decide)
          · rw [h y hy e1] at q; exact absurd q.1 (by decide)
        · have ru : Red G (V.filter (· ≠ u)) := by
            refine red_emb g hrest (f := fun y => if y = a then u else y) (nd.filter _) (fun y hy => ?_) (fun y hy z hz e => ?_) (fun y hy z hz => ?_)
            · show (if y = a then u else y) ∈ _
              obtain ⟨h1, h2⟩ := mem_wo.mp hy
              by_cases e : y = a
              · rw [if_pos e]; exact mem_wo.mpr ⟨hu, hne⟩
              · rw [if_neg e]; exact mem_wo.mpr ⟨h1, e⟩
            · have e : (if y = a then u else y) = (if z = a then u else z) := e
              have hy2 := (mem_wo.mp hy).2
              have hz2 := (mem_wo.mp hz).2
              by_cases e1 : y = a <;> by_cases e2 : z = a
              · rw [e1, e2]
              · rw [if_pos e1, if_neg e2] at e; exact absurd e.symm hz2
              · rw [if_neg e1, if_pos e2] at e; exact absurd e hy2
              · rw [if_neg e1, if_neg e2] at e; exact e
            · show G y z = G (if y = a then u else y) (if z = a then u else z)
              obtain ⟨hy1, hy2⟩ := mem_wo.mp hy
              obtain ⟨hz1, hz2⟩ := mem_wo.mp hz
              by_cases e1 : y = a <;> by_cases e2 : z = a
              · rw [if_pos e1, if_pos e2, e1, e2, g.irr, g.irr]
              · rw [if_pos e1, if_neg e2, e1]; exact h z hz1 e2 hz2
              · rw [if_neg e1, if_pos e2, e2, g.sym, g.sym y]; exact h y hy1 e1 hy2
              · rw [if_neg e1, if_neg e2]
          refine .step hu (.inr ⟨a, ha, fun e => hne e.symm, ?_⟩) (ih g (nd.filter _) (shorter u hu) ru (mem_wo.mpr ⟨ha, fun e => hne e.symm⟩))
          cases hau : G a u with
          | false => 
            refine .inr fun y hy hy1 hy2 => ?_
            rw [tn, tn, hau, g.irr a]
            simp [h y hy hy2 hy1]
          | true =>
            refine .inl fun y hy hy1 => ?_
            rw [tn, hau]
            by_cases e : u = y
            · subst e; rw [g.irr]; simp
            · rw [h y hy hy1 (fun z => e z.symm)]; simp [e]
      · have rest : Red (turnG a G) (V.filter (· ≠ x)) := ih g (nd.filter _) (shorter x hx) hrest (mem_wo.mpr ⟨ha, hax⟩)
        refine .step hx ?_ rest
        rcases hrem with h | ⟨u, hu, hne, h | h⟩
        · refine .inl fun y hy => ?_
          rw [tn, h y hy, g.sym a x, h a ha]
          simp
        · by_cases hau : a = u
          · subst hau
            cases hxa : G a x with
            | false =>
              refine .inr ⟨a, hu, hne, .inl fun y hy hy1 => ?_⟩
              rw [tn, h y hy hy1, hxa]
              simp
            | true =>
              refine .inr ⟨a, hu, hne, .inr fun y hy hy1 hy2 => ?_⟩
              rw [tn, tn, h y hy hy2, hxa, g.irr]
              simp [Ne.symm hy1]
          · refine .inr ⟨u, hu, hne, .inl fun y hy hy1 => ?_⟩
            rw [tn, h y hy hy1, g.sym a x, h a ha hau]
            simp
        · by_cases hau : a = u
          · subst hau
            cases hxa : G a x with
            | false =>
              refine .inr ⟨a, hu, hne, .inr fun y hy hy1 hy2 => ?_⟩
              rw [tn, tn, h y hy hy1 hy2, hxa, g.irr]
              simp
            | true =>
              refine .inr ⟨a, hu, hne, .inl fun y hy hy1 => ?_⟩
              rw [tn]
              by_cases e : x = y
              · subst e; rw [g.irr]; simp
              · rw [h y hy (fun z => e z.symm) hy1, hxa]; simp [e]
          · refine .inr ⟨u, hu, hne, .inr fun y hy hy1 hy2 => ?_⟩
            rw [tn, tn, h y hy hy1 hy2, g.sym a x, g.sym a u, h a ha hax hau]
            simp [Ne.symm hy1, Ne.symm hy2]
theorem red_turns {G : Nat → Nat → Bool} {V : List Nat} (g : Gr G) (nd : V.Nodup) : ∀ (l : List Nat), (∀ a ∈ l, a ∈ V) → (Red (turnsG l G) V ↔ Red G V) := by
  intro l
  induction l generalizing G with
  | nil => intro _; exact Iff.rfl
  | cons a l ih =>
    intro h
    have ha := h a List.mem_cons_self
    show Red (turnsG l (turnG a G)) V ↔ _
    rw [ih (g.turn a) fun b hb => h b (List.mem_cons_of_mem _ hb)]
    refine ⟨fun r => ?_, fun r => red_turn _ g nd (Nat.le_refl _) r ha⟩
    have r2 := red_turn _ (g.turn a) nd (Nat.le_refl _) r ha
    exact red_id ((g.turn a).turn a) r2 nd (fun _ h => h) fun b _ c _ => (turn_turn g a b c).symm
/-- who can go, while some can -/
theorem red_some {G : Nat → Nat → Bool} {V : List Nat} (h : Red G V) (h2 : 2 ≤ V.length) : ∃ x ∈ V, RemP G x V := by
  cases h with
  | one h => omega
  | step hx hr _ => exact ⟨_, hx, hr⟩
theorem red_wo {G : Nat → Nat → Bool} {V : List Nat} {x : Nat} (g : Gr G) (nd : V.Nodup) (hx : x ∈ V) (hr : RemP G x V) : Red G (V.filter (· ≠ x)) ↔ Red G V :=
  ⟨fun h => .step hx hr h, fun h => red_id g h (nd.filter _) (fun w hw => (mem_wo.mp hw).1) fun _ _ _ _ => rfl⟩
end LW

namespace LW
/-! ### steps -/
inductive Sg where
  | alone (x : Nat) | leaf (x y : Nat) | twin (x y : Nat) (f : Bool)
def Sg.x : Sg → Nat
  | .alone x => x
  | .leaf x _ => x
  | .twin x _ _ => x
def sgD : Sg → D
  | .alone x => .tup [.str "alone", nD x]
  | .leaf x y => .tup [.str "leaf", nD x, nD y]
  | .twin x y f => .tup [.str "twin", nD x, nD y, .str (if f = true then "friend" else "stranger")]
def optSg : Option Sg → D
  | none => .non
  | some s => sgD s
def nbW (n : Nat) (G : Nat → Nat → Bool) (x : Nat) (W : List Nat) : List Nat := (frL n G x).filter fun y => decide (y ∈ W)
def twC (n : Nat) (G : Nat → Nat → Bool) (x y : Nat) (W : List Nat) : Bool := decide ((nbW n G x W).filter (fun z => !decide (z = y)) = (nbW n G y W).filter (fun z => !decide (z = x)))
def stepF (n : Nat) (G : Nat → Nat → Bool) (x : Nat) (W : List Nat) : Option Sg :=
  if nbW n G x W = [] then some (.alone x) else if (nbW n G x W).length = 1 then some (.leaf x ((nbW n G x W).headD 0))
  else (W.find? fun y => !decide (y = x) && twC n G x y W).map fun y => .twin x y (decide (y ∈ nbW n G x W))
variable {n x y : Nat} {G : Nat → Nat → Bool} {W : List Nat}
theorem mem_nb {z : Nat} : z ∈ nbW n G x W ↔ (z < n ∧ G x z = true) ∧ z ∈ W := by
  unfold nbW
  rw [List.mem_filter, mem_frL, decide_eq_true_iff]
theorem stepF_x {s : Sg} (h : stepF n G x W = some s) : s.x = x := by
  unfold stepF at h
  split at h
  · cases h; rfl
  · split at h
    · cases h; rfl
    · cases hf : W.find? fun y => !decide (y = x) && twC n G x y W with
      | none => rw [hf] at h; cases h
      | some y => rw [hf] at h; cases h; rfl
theorem twC_iff (hW : ∀ z ∈ W, z < n) (g : Gr G) : twC n G x y W = true ↔ ∀ z ∈ W, z ≠ x → z ≠ y → G x z = G y z := by
  unfold twC
  rw [decide_eq_true_iff]
  constructor
  · intro e z hz h1 h2
    have m : z ∈ (nbW n G x W).filter (fun z => !decide (z = y)) ↔ z ∈ (nbW n G y W).filter (fun z => !decide (z = x)) := by rw [e]
    rw [List.mem_filter, List.mem_filter, mem_nb, mem_nb] at m
    simp only [hz, hW z hz, h1, h2, decide_false, Bool.not_false, and_true, true_and] at m
    rw [Bool.eq_iff_iff]; exact m
  · intro h
    unfold nbW frL
    rw [List.filter_filter, List.filter_filter, List.filter_filter, List.filter_filter]
    refine List.filter_congr fun z hz => ?_
    by_cases hw : z ∈ W
    · by_cases e1 : z = x
      · subst e1; simp [g.irr]
      · by_cases e2 : z = y
        · subst e2; simp [g.irr]
        · rw [h z hw e1 e2]; simp [e1, e2]
    · simp [hw]
theorem nb_one (nd : (nbW n G x W).length = 1) : ∃ u, nbW n G x W = [u] := List.length_eq_one_iff.mp nd
theorem stepF_rem (hx : x ∈ W) (hW : ∀ z ∈ W, z < n) (g : Gr G) : (stepF n G x W).isSome = true ↔ RemP G x W := by
  have none_iff : nbW n G x W = [] ↔ ∀ z ∈ W, G x z = false := by
    rw [List.eq_nil_iff_forall_not_mem]
    refine ⟨fun h z hz => ?_, fun h z hz => ?_⟩
    · cases e : G x z with
      | false => rfl
      | true => exact absurd (mem_nb.mpr ⟨⟨hW z hz, e⟩, hz⟩) (h z)
    · obtain ⟨⟨_, h1⟩, h2⟩ := mem_nb.mp hz
      rw [h z h2] at h1
      cases h1
  unfold stepF
  by_cases h0 : nbW n G x W = []
  · rw [if_pos h0]
    exact ⟨fun _ => .inl (none_iff.mp h0), fun _ => rfl⟩
  · rw [if_neg h0]
    by_cases h1 : (nbW n G x W).length = 1
    · rw [if_pos h1]
      obtain ⟨u, hu⟩ := nb_one h1
      refine ⟨fun _ => ?_, fun _ => rfl⟩
      obtain ⟨⟨hun, hxu⟩, huW⟩ := mem_nb.mp (show u ∈ nbW n G x W by rw [hu]; exact List.mem_singleton.mpr rfl)
      refine .inr ⟨u, huW, (fun e => by rw [e, g.irr] at hxu; cases hxu), .inl fun z hz hne => ?_⟩
      cases e : G x z with
      | false => rfl
      | true =>
        have := mem_nb.mpr ⟨⟨hW z hz, e⟩, hz⟩
        rw [hu] at this
        exact absurd (List.mem_singleton.mp this) hne
    · rw [if_neg h1, Option.isSome_map]
      rw [List.find?_isSome]
      constructor
      · rintro ⟨y, hy, h2⟩
        simp only [Bool.and_eq_true, Bool.not_eq_true', decide_eq_false_iff_not] at h2
        exact .inr ⟨y, hy, h2.1, .inr ((twC_iff hW g).mp h2.2)⟩
      · rintro (h | ⟨u, hu, hne, h | h⟩)
        · exact absurd (none_iff.mpr h) h0
        · exfalso
          have sub : ∀ z ∈ nbW n G x W, z = u := fun z hz => by
            obtain ⟨⟨_, h2⟩, h3⟩ := mem_nb.mp hz
            rcases Decidable.em (z = u) with e | e
            · exact e
            · rw [h z h3 e] at h2; cases h2
          have nd : (nbW n G x W).Nodup := (List.Pairwise.filter _ (List.Pairwise.filter _ List.nodup_range))
          have : (nbW n G x W).length ≤ [u].length := List.Nodup.length_le_of_subset nd fun z hz => List.mem_singleton.mpr (sub z hz)
          have h3 : (nbW n G x W).length ≠ 0 := fun e => h0 (List.length_eq_zero_iff.mp e)
          simp at this
          omega
        · exact ⟨u, hu, by simp only [Bool.and_eq_true, Bool.not_eq_true', decide_eq_false_iff_not]; exact ⟨hne, (twC_iff hW g).mpr h⟩⟩
/-! ### taking away, the greatest first -/
def pick (n : Nat) (G : Nat → Nat → Bool) (W : List Nat) : Option Sg := (W.reverse.filterMap fun x => stepF n G x W).head?
def growL (n : Nat) (G : Nat → Nat → Bool) : Nat → List Nat → List Sg → Option (List Nat × List Sg)
  | 0, W, acc => some (W, acc)
  | k + 1, W, acc => if W.length ≤ 1 then some (W, acc) else match pick n G W with
    | none => none
    | some s => growL n G k (W.filter (· ≠ s.x)) (acc ++ [s])
theorem pick_mem {s : Sg} (h : pick n G W = some s) : s.x ∈ W ∧ stepF n G s.x W = some s := by
  unfold pick at h
  have hm : s ∈ W.reverse.filterMap fun x => stepF n G x W := List.mem_of_head? h
  obtain ⟨x, hx, e⟩ := List.mem_filterMap.mp hm
  have := stepF_x e
  subst this
  exact ⟨List.mem_reverse.mp hx, e⟩
theorem pick_none (h : pick n G W = none) : ∀ x ∈ W, stepF n G x W = none := by
  unfold pick at h
  rw [List.head?_eq_none_iff, List.filterMap_eq_nil_iff] at h
  exact fun x hx => h x (List.mem_reverse.mpr hx)
theorem grow_red (g : Gr G) : ∀ (k : Nat) (W : List Nat) (acc : List Sg), W.Nodup → (∀ z ∈ W, z < n) → W.length ≤ k + 1 → ((growL n G k W acc).isSome = true ↔ Red G W) := by
  intro k
  induction k with
  | zero => intro W acc _ _ hl; exact ⟨fun _ => .one hl, fun _ => rfl⟩
  | succ k ih =>
    intro W acc nd hW hl
    unfold growL
    by_cases h1 : W.length ≤ 1
    · rw [if_pos h1]; exact ⟨fun _ => .one h1, fun _ => rfl⟩
    · rw [if_neg h1]
      cases hp : pick n G W with
      | none =>
        refine ⟨fun h => (nomatch h), fun h => ?_⟩
        obtain ⟨x, hx, hr⟩ := red_some h (by omega)
        have := (stepF_rem hx hW g).mpr hr
        rw [pick_none hp x hx] at this
        cases this
      | some s =>
        obtain ⟨hx, hs⟩ := pick_mem hp
        have hr := (stepF_rem hx hW g).mp (by rw [hs]; rfl)
        show (growL n G k (W.filter (· ≠ s.x)) (acc ++ [s])).isSome = true ↔ _
        have hlt : (W.filter (· ≠ s.x)).length < W.length := List.length_filter_lt_length_iff_exists.mpr ⟨s.x, hx, by simp⟩
        rw [ih _ _ (nd.filter _) (fun z hz => hW z (mem_wo.mp hz).1) (by omega), red_wo g nd hx hr]
theorem len_split {α : Type} (p : α → Bool) : ∀ {l : List α}, l.length = (l.filter p).length + (l.filter fun z => !p z).length
  | [] => rfl
  | a :: l => by
    have := len_split p (l := l)
    cases h : p a <;> simp [h] <;> omega
theorem nodup_one {α : Type} (a : α) : [a].Nodup := by simp
theorem grow_one : ∀ (k : Nat) {W W' : List Nat} {acc acc' : List Sg}, growL n G k W acc = some (W', acc') → W.Nodup → 1 ≤ W.length → W.length ≤ k + 1 → ∃ w, W' = [w] ∧ w ∈ W
  | 0, W, W', acc, acc', h, nd, h1, hl => by
    cases h
    obtain ⟨w, hw⟩ := List.length_eq_one_iff.mp (Nat.le_antisymm hl h1)
    exact ⟨w, hw, by rw [hw]; exact List.mem_singleton.mpr rfl⟩
  | k + 1, W, W', acc, acc', h, nd, h1, hl => by
    unfold growL at h
    split at h
    · rename_i hh
      cases h
      obtain ⟨w, hw⟩ := List.length_eq_one_iff.mp (Nat.le_antisymm hh h1)
      exact ⟨w, hw, by rw [hw]; exact List.mem_singleton.mpr rfl⟩
    · rename_i hh
      split at h
      · cases h
      · rename_i s hp
        obtain ⟨hx, _⟩ := pick_mem hp
        have hlt : (W.filter (· ≠ s.x)).length < W.length := List.length_filter_lt_length_iff_exists.mpr ⟨s.x, hx, by simp⟩
        have hge : W.length ≤ (W.filter (· ≠ s.x)).length + 1 := by
          have := len_split (l := W) (fun z => decide (z ≠ s.x))
          have h2 : (W.filter fun z => !decide (z ≠ s.x)).length ≤ [s.x].length := List.Nodup.length_le_of_subset (nd.filter _) fun z hz => by
            have := (List.mem_filter.mp hz).2
            simp at this
            exact List.mem_singleton.mpr this
          simp only [List.length_singleton] at h2
          omega
        obtain ⟨w, e, hw⟩ := grow_one k h (nd.filter _) (by omega) (by omega)
        exact ⟨w, e, (mem_wo.mp hw).1⟩
/-! ### building up -/
abbrev Ps := List (Nat × Nat)
def ownS (here : List Nat) (P : Ps) : Sg → List Nat
  | .alone _ => []
  | .leaf _ y => [y]
  | .twin _ y f => (here.filter fun z => gOf P y z) ++ (if f = true then [y] else [])
def mmP (x y : Nat) : Nat × Nat := (min x y, max x y)
def bstep (q : List Nat × Ps) (s : Sg) : List Nat × Ps := (q.1 ++ [s.x], q.2 ++ (ownS q.1 q.2 s).map (mmP s.x))
structure GIn (q : List Nat × Ps) : Prop where
  nd : q.1.Nodup
  pn : q.2.Nodup
  ok : ∀ p ∈ q.2, p.1 < p.2 ∧ p.1 ∈ q.1 ∧ p.2 ∈ q.1
def VSt (here : List Nat) : Sg → Prop
  | .alone x => x ∉ here
  | .leaf x y => x ∉ here ∧ y ∈ here
  | .twin x y _ => x ∉ here ∧ y ∈ here
theorem VSt.new {here : List Nat} {s : Sg} (h : VSt here s) : s.x ∉ here := by
  cases s with
  | alone x => exact h
  | leaf x y => exact h.1
  | twin x y f => exact h.1
theorem GIn.gr {q : List Nat × Ps} (I : GIn q) : Gr (gOf q.2) := gOf_gr fun p hp => (I.ok p hp).1
theorem GIn.own {q : List Nat × Ps} (I : GIn q) {s : Sg} (v : VSt q.1 s) : (ownS q.1 q.2 s).Nodup ∧ ∀ z ∈ ownS q.1 q.2 s, z ∈ q.1 := by
  cases s with
  | alone x => exact ⟨List.nodup_nil, fun z hz => (nomatch hz)⟩
  | leaf x y => exact ⟨nodup_one y, fun z hz => by rw [List.mem_singleton.mp hz]; exact v.2⟩
  | twin x y f =>
    refine ⟨?_, fun z hz => ?_⟩
    · show ((q.1.filter fun z => gOf q.2 y z) ++ (if f = true then [y] else [])).Nodup
      rw [List.nodup_append]
      refine ⟨I.nd.filter _, by split <;> simp, fun a ha b hb e => ?_⟩
      subst e
      have h1 := (List.mem_filter.mp ha).2
      split at hb
      · rw [List.mem_singleton.mp hb, I.gr.irr] at h1; cases h1
      · cases hb
    · rcases List.mem_append.mp hz with h | h
      · exact (List.mem_filter.mp h).1
      · split at h
        · rw [List.mem_singleton.mp h]; exact v.2
        · cases h
theorem mmP_inj {x y z : Nat} (h : mmP x y = mmP x z) : y = z := by
  unfold mmP at h
  have h1 := congrArg Prod.fst h
  have h2 := congrArg Prod.snd h
  simp only at h1 h2
  omega
theorem GIn.step {q : List Nat × Ps} (I : GIn q) {s : Sg} (v : VSt q.1 s) : GIn (bstep q s) := by
  obtain ⟨o1, o2⟩ := I.own v
  have hx := v.new
  refine ⟨?_, ?_, fun p hp => ?_⟩
  · show (q.1 ++ [s.x]).Nodup
    rw [List.nodup_append]
    exact ⟨I.nd, nodup_one _, fun a ha b hb e => hx (by rw [← List.mem_singleton.mp hb, ← e]; exact ha)⟩
  · show (q.2 ++ (ownS q.1 q.2 s).map (mmP s.x)).Nodup
    rw [List.nodup_append]
    refine ⟨I.pn, ?_, fun a ha b hb e => ?_⟩
    · rw [List.nodup_iff_pairwise_ne, List.pairwise_map]
      exact o1.imp fun h e => h (mmP_inj e)
    · obtain ⟨y, hy, rfl⟩ := List.mem_map.mp hb
      subst e
      obtain ⟨_, h2, h3⟩ := I.ok _ ha
      unfold mmP at h2 h3
      simp only at h2 h3
      by_cases h : s.x ≤ y
      · rw [Nat.min_eq_left h] at h2; exact hx h2
      · rw [Nat.max_eq_left (by omega)] at h3; exact hx h3
  · have hp : p ∈ q.2 ++ (ownS q.1 q.2 s).map (mmP s.x) := hp
    show p.1 < p.2 ∧ p.1 ∈ q.1 ++ [s.x] ∧ p.2 ∈ q.1 ++ [s.x]
    rcases List.mem_append.mp hp with h | h
    · obtain ⟨h1, h2, h3⟩ := I.ok p h
      exact ⟨h1, List.mem_append_left _ h2, List.mem_append_left _ h3⟩
    · obtain ⟨y, hy, rfl⟩ := List.mem_map.mp h
      have hy' := o2 y hy
      have hne : y ≠ s.x := fun e => hx (by rw [← e]; exact hy')
      have m1 : s.x ∈ q.1 ++ [s.x] := List.mem_append_right _ (List.mem_singleton.mpr rfl)
      have m2 : y ∈ q.1 ++ [s.x] := List.mem_append_left _ hy'
      unfold mmP
      refine ⟨by show min s.x y < max s.x y; omega, ?_, ?_⟩
      · show min s.x y ∈ _
        by_cases h : s.x ≤ y
        · rw [Nat.min_eq_left h]; exact m1
        · rw [Nat.min_eq_right (by omega)]; exact m2
      · show max s.x y ∈ _
        by_cases h : s.x ≤ y
        · rw [Nat.max_eq_right h]; exact m2
        · rw [Nat.max_eq_left (by omega)]; exact m1
theorem gOf_mm {P : Ps} (h : ∀ p ∈ P, p.1 < p.2) {a b : Nat} (hab : a ≠ b) : gOf P a b = true ↔ mmP a b ∈ P := by
  unfold gOf mmP
  rw [Bool.or_eq_true, decide_eq_true_iff, decide_eq_true_iff]
  by_cases c : a ≤ b
  · rw [Nat.min_eq_left c, Nat.max_eq_right c]
    exact ⟨fun z => z.elim id fun z => by have := h _ z; simp only at this; omega, .inl⟩
  · rw [Nat.min_eq_right (by omega), Nat.max_eq_left (by omega)]
    exact ⟨fun z => z.elim (fun z => by have := h _ z; simp only at this; omega) id, .inr⟩
/-- who is whose friend behind a step -/
theorem bstep_g {q : List Nat × Ps} (I : GIn q) {s : Sg} (v : VSt q.1 s) {a b : Nat} : gOf (bstep q s).2 a b = (gOf q.2 a b || (decide (a = s.x) && decide (b ∈ ownS q.1 q.2 s)) || (decide (b = s.x) && decide (a ∈ ownS q.1 q.2 s))) := by
  obtain ⟨o1, o2⟩ := I.own v
  have hx := v.new
  have I' := I.step v
  have nx : s.x ∉ ownS q.1 q.2 s := fun h => hx (o2 _ h)
  by_cases hab : a = b
  · subst hab
    rw [I'.gr.irr, I.gr.irr]
    by_cases e : a = s.x
    · subst e; simp [nx]
    · simp [e]
  · rw [Bool.eq_iff_iff, gOf_mm (fun p hp => (I'.ok p hp).1) hab, Bool.or_eq_true, Bool.or_eq_true, gOf_mm (fun p hp => (I.ok p hp).1) hab]
    show mmP a b ∈ q.2 ++ (ownS q.1 q.2 s).map (mmP s.x) ↔ _
    rw [List.mem_append, List.mem_map, or_assoc]
    refine or_congr Iff.rfl ?_
    simp only [Bool.and_eq_true, decide_eq_true_iff]
    constructor
    · rintro ⟨y, hy, e⟩
      unfold mmP at e
      have e1 := congrArg Prod.fst e
      have e2 := congrArg Prod.snd e
      simp only at e1 e2
      have hne : y ≠ s.x := fun e => nx (by rw [← e]; exact hy)
      by_cases c : a = s.x
      · exact .inl ⟨c, by rw [show b = y by omega]; exact hy⟩
      · exact .inr ⟨by omega, by rw [show a = y by omega]; exact hy⟩
    · rintro (⟨rfl, h⟩ | ⟨rfl, h⟩)
      · exact ⟨b, h, rfl⟩
      · refine ⟨a, h, ?_⟩
        unfold mmP
        rw [Nat.min_comm, Nat.max_comm]
end LW

namespace LW
variable {n x y : Nat} {G : Nat → Nat → Bool} {W : List Nat}
def VAll : List Nat × Ps → List Sg → Prop
  | _, [] => True
  | q, s :: ss => VSt q.1 s ∧ VAll (bstep q s) ss
theorem vall_app : ∀ {a b : List Sg} {q : List Nat × Ps}, VAll q (a ++ b) ↔ VAll q a ∧ VAll (a.foldl bstep q) b
  | [], b, q => by simp [VAll]
  | s :: a, b, q => by
    show VSt q.1 s ∧ VAll (bstep q s) (a ++ b) ↔ (VSt q.1 s ∧ VAll (bstep q s) a) ∧ VAll (a.foldl bstep (bstep q s)) b
    rw [vall_app, and_assoc]
theorem gin_all : ∀ {ss : List Sg} {q : List Nat × Ps}, GIn q → VAll q ss → GIn (ss.foldl bstep q)
  | [], _, I, _ => I
  | s :: ss, q, I, v => gin_all (ss := ss) (I.step v.1) v.2
theorem step_v {s : Sg} (g : Gr G) (hW : ∀ z ∈ W, z < n) {q : List Nat × Ps} (I : GIn q) (hq : ∀ z, z ∈ q.1 ↔ z ∈ W.filter (· ≠ s.x)) (hg : ∀ a ∈ W.filter (· ≠ s.x), ∀ b ∈ W.filter (· ≠ s.x), gOf q.2 a b = G a b) (hs : stepF n G s.x W = some s) :
    VSt q.1 s ∧ ∀ b ∈ W.filter (· ≠ s.x), decide (b ∈ ownS q.1 q.2 s) = G s.x b := by
  have nx : s.x ∉ q.1 := fun h => (mem_wo.mp ((hq _).mp h)).2 rfl
  have hs0 := hs
  unfold stepF at hs
  split at hs
  · rename_i h0
    cases s with
    | alone x =>
      refine ⟨nx, fun b hb => ?_⟩
      obtain ⟨h1, h2⟩ := mem_wo.mp hb
      show decide (b ∈ []) = G x b
      cases e : G x b with
      | false => simp
      | true =>
        have : b ∈ nbW n G x W := mem_nb.mpr ⟨⟨hW b h1, e⟩, h1⟩
        rw [show nbW n G x W = [] from h0] at this
        cases this
    | _ => cases hs
  · rename_i h0
    split at hs
    · rename_i h1
      cases s with
      | leaf x y =>
        obtain ⟨u, hu'⟩ := nb_one h1
        have hu : nbW n G x W = [u] := hu'
        clear hu'
        have e : u = y := by
          have hs : some (Sg.leaf x ((nbW n G x W).headD 0)) = some (Sg.leaf x y) := hs
          rw [show nbW n G x W = [u] from hu] at hs
          injection hs with hs
          injection hs
        subst e
        obtain ⟨⟨_, h3⟩, h4⟩ := mem_nb.mp (show u ∈ nbW n G x W from hu ▸ List.mem_singleton.mpr rfl)
        have ne : u ≠ x := fun e => by rw [e, g.irr] at h3; cases h3
        refine ⟨⟨nx, (hq _).mpr (mem_wo.mpr ⟨h4, ne⟩)⟩, fun b hb => ?_⟩
        obtain ⟨hb1, hb2⟩ := mem_wo.mp hb
        show decide (b ∈ [u]) = G x b
        rw [← hu, Bool.eq_iff_iff, decide_eq_true_iff, mem_nb]
        exact ⟨fun z => z.1.2, fun z => ⟨⟨hW b hb1, z⟩, hb1⟩⟩
      | alone x => cases hs
      | twin x y f => cases hs
    · cases hf : W.find? fun y => !decide (y = s.x) && twC n G s.x y W with
      | none => rw [hf] at hs; cases hs
      | some y =>
        rw [hf] at hs
        cases s with
        | twin x y' f =>
          have hs : some (Sg.twin x y (decide (y ∈ nbW n G x W))) = some (Sg.twin x y' f) := hs
          injection hs with hs
          injection hs with _ e1 e2
          subst e1
          subst e2
          have hp := List.find?_some hf
          have hy := List.mem_of_find?_eq_some hf
          have hp : (!decide (y = x) && twC n G x y W) = true := hp
          simp only [Bool.and_eq_true, Bool.not_eq_true', decide_eq_false_iff_not] at hp
          have tw := (twC_iff hW g).mp hp.2
          have yq : y ∈ q.1 := (hq _).mpr (mem_wo.mpr ⟨hy, hp.1⟩)
          refine ⟨⟨nx, yq⟩, fun b hb => ?_⟩
          obtain ⟨hb1, hb2⟩ := mem_wo.mp hb
          have hb2 : b ≠ x := hb2
          show decide (b ∈ (q.1.filter fun z => gOf q.2 y z) ++ (if decide (y ∈ nbW n G x W) = true then [y] else [])) = G x b
          rw [Bool.eq_iff_iff, decide_eq_true_iff, List.mem_append, List.mem_filter]
          by_cases e : b = y
          · subst e
            rw [I.gr.irr]
            constructor
            · rintro (h | h)
              · cases h.2
              · split at h
                · rename_i h5
                  exact (mem_nb.mp (of_decide_eq_true h5)).1.2
                · cases h
            · intro h
              refine .inr ?_
              rw [if_pos (decide_eq_true (mem_nb.mpr ⟨⟨hW _ hb1, h⟩, hb1⟩))]
              exact List.mem_singleton.mpr rfl
          · rw [hg y (mem_wo.mpr ⟨hy, hp.1⟩) b hb, ← tw b hb1 hb2 e]
            constructor
            · rintro (h | h)
              · exact h.2
              · split at h
                · exact absurd (List.mem_singleton.mp h) e
                · cases h
            · intro h
              exact .inl ⟨(hq b).mpr hb, h⟩
        | alone x => cases hs
        | leaf x y => cases hs
theorem grow_back (g : Gr G) : ∀ (k : Nat) (W W' : List Nat) (acc acc' : List Sg), growL n G k W acc = some (W', acc') → (∀ z ∈ W, z < n) → ∃ ms, acc' = acc ++ ms ∧ ms.length ≤ k ∧ (∀ s ∈ ms, s.x ∈ W) ∧ ∀ q : List Nat × Ps, GIn q → (∀ z, z ∈ q.1 ↔ z ∈ W') → (∀ a ∈ W', ∀ b ∈ W', gOf q.2 a b = G a b) →
    VAll q ms.reverse ∧ (∀ z, z ∈ (ms.reverse.foldl bstep q).1 ↔ z ∈ W) ∧ (∀ a ∈ W, ∀ b ∈ W, gOf (ms.reverse.foldl bstep q).2 a b = G a b)
  | 0, W, W', acc, acc', h, hW => by
    cases h
    exact ⟨[], by simp, Nat.le_refl _, fun _ h => (nomatch h), fun q I h1 h2 => ⟨trivial, h1, h2⟩⟩
  | k + 1, W, W', acc, acc', h, hW => by
    unfold growL at h
    split at h
    · cases h
      exact ⟨[], by simp, Nat.zero_le _, fun _ h => (nomatch h), fun q I h1 h2 => ⟨trivial, h1, h2⟩⟩
    · split at h
      · cases h
      · rename_i s hp
        obtain ⟨hx, hs⟩ := pick_mem hp
        obtain ⟨ms, e, hl, hm, hb⟩ := grow_back g k _ _ _ _ h fun z hz => hW z (mem_wo.mp hz).1
        refine ⟨s :: ms, by rw [e, List.append_assoc]; rfl, by simp; omega, fun t ht => ?_, fun q I h1 h2 => ?_⟩
        · rcases List.mem_cons.mp ht with e | e
          · rw [e]; exact hx
          · exact (mem_wo.mp (hm t e)).1
        · obtain ⟨v, f1, f2⟩ := hb q I h1 h2
          have I1 := gin_all I v
          obtain ⟨v2, o2⟩ := step_v g hW I1 f1 f2 hs
          rw [List.reverse_cons, List.foldl_append]
          refine ⟨vall_app.mpr ⟨v, v2, trivial⟩, fun z => ?_, fun a ha b hb => ?_⟩
          · show z ∈ (ms.reverse.foldl bstep q).1 ++ [s.x] ↔ _
            rw [List.mem_append, f1, mem_wo, List.mem_singleton]
            by_cases e : z = s.x
            · subst e; simp [hx]
            · simp [e]
          · show gOf (bstep (ms.reverse.foldl bstep q) s).2 a b = _
            rw [bstep_g I1 v2]
            have nn := v2.new
            have no : s.x ∉ ownS (ms.reverse.foldl bstep q).1 (ms.reverse.foldl bstep q).2 s := fun h => nn ((I1.own v2).2 _ h)
            have fx : ∀ c, gOf (ms.reverse.foldl bstep q).2 s.x c = false := fun c => by
              cases e : gOf (ms.reverse.foldl bstep q).2 s.x c with
              | false => rfl
              | true =>
                unfold gOf at e
                rw [Bool.or_eq_true, decide_eq_true_iff, decide_eq_true_iff] at e
                rcases e with e | e
                · exact absurd (I1.ok _ e).2.1 nn
                · exact absurd (I1.ok _ e).2.2 nn
            by_cases ea : a = s.x
            · subst ea
              rw [fx]
              by_cases eb : b = s.x
              · subst eb; rw [decide_eq_false no, g.irr]; simp
              · rw [o2 b (mem_wo.mpr ⟨hb, eb⟩)]; simp [eb]
            · by_cases eb : b = s.x
              · subst eb
                rw [I1.gr.sym, fx, o2 a (mem_wo.mpr ⟨ha, ea⟩), g.sym a]; simp [ea]
              · rw [f2 a (mem_wo.mpr ⟨ha, ea⟩) b (mem_wo.mpr ⟨hb, eb⟩)]; simp [ea, eb]
/-- what is built grows -/
theorem red_build : ∀ {ss : List Sg} {q : List Nat × Ps}, GIn q → VAll q ss → Red (gOf q.2) q.1 → Red (gOf (ss.foldl bstep q).2) (ss.foldl bstep q).1
  | [], _, _, _, r => r
  | s :: ss, q, I, v, r => by
    refine red_build (ss := ss) (I.step v.1) v.2 ?_
    have v1 := v.1
    have nn := v1.new
    have hg : ∀ a b, gOf (bstep q s).2 a b = _ := fun a b => bstep_g I v1
    have no : s.x ∉ ownS q.1 q.2 s := fun h => nn ((I.own v1).2 _ h)
    have fx : ∀ c, gOf q.2 s.x c = false := fun c => by
      cases e : gOf q.2 s.x c with
      | false => rfl
      | true =>
        unfold gOf at e
        rw [Bool.or_eq_true, decide_eq_true_iff, decide_eq_true_iff] at e
        rcases e with e | e
        · exact absurd (I.ok _ e).2.1 nn
        · exact absurd (I.ok _ e).2.2 nn
    have xn : ∀ c, gOf (bstep q s).2 s.x c = decide (c ∈ ownS q.1 q.2 s) := fun c => by
      rw [hg, fx]
      by_cases e : c = s.x
      · subst e; simp
      · simp [e]
    refine .step (x := s.x) (List.mem_append_right _ (List.mem_singleton.mpr rfl)) ?_ ?_
    · cases s with
      | alone x =>
        exact .inl fun c _ => xn c
      | leaf x y =>
        refine .inr ⟨y, List.mem_append_left _ v1.2, fun e => nn (by show x ∈ q.1; rw [← show y = x from e]; exact v1.2), .inl fun c _ hc => ?_⟩
        rw [show gOf (bstep q (.leaf x y)).2 (Sg.leaf x y).x c = _ from xn c]
        show decide (c ∈ [y]) = false
        simp [hc]
      | twin x y f =>
        have hyx : y ≠ x := fun e => nn (by show x ∈ q.1; rw [← e]; exact v1.2)
        refine .inr ⟨y, List.mem_append_left _ v1.2, hyx, .inr fun c hc hc1 hc2 => ?_⟩
        have hc1 : c ≠ x := hc1
        rw [show gOf (bstep q (.twin x y f)).2 (Sg.twin x y f).x c = _ from xn c, hg]
        have hcq : c ∈ q.1 := by
          rcases List.mem_append.mp hc with h | h
          · exact h
          · exact absurd (List.mem_singleton.mp h) hc1
        show decide (c ∈ (q.1.filter fun z => gOf q.2 y z) ++ (if f = true then [y] else [])) = (gOf q.2 y c || (decide (y = x) && _) || (decide (c = x) && _))
        have e1 : decide (c ∈ (q.1.filter fun z => gOf q.2 y z) ++ (if f = true then [y] else [])) = gOf q.2 y c := by
          rw [Bool.eq_iff_iff, decide_eq_true_iff, List.mem_append, List.mem_filter]
          refine ⟨fun h => h.elim (fun h => h.2) fun h => ?_, fun h => .inl ⟨hcq, h⟩⟩
          split at h
          · exact absurd (List.mem_singleton.mp h) hc2
          · cases h
        rw [e1]
        simp [hyx, hc1]
    · have e : (q.1 ++ [s.x]).filter (· ≠ s.x) = q.1 := by
        rw [List.filter_append, List.filter_eq_self.mpr fun a ha => by simp; exact fun e => nn (by rw [← e]; exact ha)]
        simp
      show Red _ ((q.1 ++ [s.x]).filter (· ≠ s.x))
      rw [e]
      refine red_id I.gr r I.nd (fun _ h => h) fun a ha b hb => ?_
      rw [hg]
      have h1 : a ≠ s.x := fun e => nn (by rw [← e]; exact ha)
      have h2 : b ≠ s.x := fun e => nn (by rw [← e]; exact hb)
      simp [h1, h2]
/-! ### the whole -/
def grB (n : Nat) (G : Nat → Nat → Bool) : Bool := (growL n G n (List.range n) []).isSome
theorem grB_iff (g : Gr G) : grB n G = true ↔ Red G (List.range n) := grow_red g n _ _ List.nodup_range (fun z hz => List.mem_range.mp hz) (by rw [List.length_range]; omega)
theorem grB_turns (g : Gr G) {l : List Nat} (hl : ∀ a ∈ l, a < n) : grB n (turnsG l G) = grB n G := by
  rw [Bool.eq_iff_iff, grB_iff (g.turns l), grB_iff g, red_turns g List.nodup_range l fun a ha => List.mem_range.mpr (hl a ha)]
end LW

namespace LW
/-! ### often needed, no program in sight -/
theorem u_nil {k : Nat} {xs : List D} (h : D.nbs k xs = true) (hk : k ≤ 63) : xEq (.lst xs) (.lst []) = some (.bl xs.isEmpty) := by
  rw [x_eq (show (D.lst xs).nb (k + 1) = true from h) (show (D.lst []).nb 1 = true from rfl) (by omega) (by decide)]
  congr 2
  cases xs <;> simp
theorem u_nnil {k : Nat} {xs : List D} (h : D.nbs k xs = true) (hk : k ≤ 63) : xNe (.lst xs) (.lst []) = some (.bl (!xs.isEmpty)) := by
  rw [x_ne (show (D.lst xs).nb (k + 1) = true from h) (show (D.lst []).nb 1 = true from rfl) (by omega) (by decide)]
  congr 3
  cases xs <;> simp
theorem u_eqN {a b : Nat} : xEq (nD a) (nD b) = some (.bl (decide (a = b))) := by
  rw [x_eq (nb_n a) (nb_n b) (by decide) (by decide)]
  congr 2
  rw [Bool.eq_iff_iff]
  simp [nD_inj]
theorem u_neN {a b : Nat} : xNe (nD a) (nD b) = some (.bl (!decide (a = b))) := by
  rw [x_ne (nb_n a) (nb_n b) (by decide) (by decide)]
  congr 3
  rw [Bool.eq_iff_iff]
  simp [nD_inj]
theorem u_len {xs : List D} : xLen [.lst xs] = some (nD xs.length) := rfl
theorem u_lenT {xs : List D} : xLen [.tup xs] = some (nD xs.length) := rfl
theorem mapN_inj : ∀ {l r : List Nat}, l.map nD = r.map nD ↔ l = r
  | [], [] => by simp
  | [], _ :: _ => by simp
  | _ :: _, [] => by simp
  | a :: l, b :: r => by rw [List.map_cons, List.map_cons, List.cons.injEq, nD_inj, mapN_inj, List.cons.injEq]
theorem u_eqL {l r : List Nat} : xEq (.lst (l.map nD)) (.lst (r.map nD)) = some (.bl (decide (l = r))) := by
  rw [x_eq (show (D.lst (l.map nD)).nb 1 = true from nb_ns l) (show (D.lst (r.map nD)).nb 1 = true from nb_ns r) (by decide) (by decide)]
  congr 2
  rw [Bool.eq_iff_iff]
  simp [mapN_inj]
theorem u_neL {l r : List Nat} : xNe (.lst (l.map nD)) (.lst (r.map nD)) = some (.bl (!decide (l = r))) := by
  rw [x_ne (show (D.lst (l.map nD)).nb 1 = true from nb_ns l) (show (D.lst (r.map nD)).nb 1 = true from nb_ns r) (by decide) (by decide)]
  congr 3
  rw [Bool.eq_iff_iff]
  simp [mapN_inj]
theorem u_inT {neg : Bool} {a : Nat} {l : List Nat} : xInA neg (nD a) (.tup (l.map nD)) = some (.bl (neg ^^ decide (a ∈ l))) := by
  rw [x_inT (nb_ns l) (nb_n a) (by decide) (by decide)]
  congr 3
  rw [Bool.eq_iff_iff]
  simp [mem_ns]
theorem u_inL {neg : Bool} {a : Nat} {l : List Nat} : xInA neg (nD a) (.lst (l.map nD)) = some (.bl (neg ^^ decide (a ∈ l))) := in_lns neg l a
theorem u_tupL {xs : List D} : xTuple [.lst xs] = some (.tup xs) := rfl
theorem pures_ns (l : List Nat) : D.pures (l.map nD) = true := pures_map fun _ _ => rfl
theorem u_rgZ {m : EM} {ρ : EE} {st st1 : DS} {j : Int} (h : m ρ st = .ok (.int j) st1) (hj : -(2 ^ 62) ≤ j ∧ j < 2 ^ 62 ∧ j.toNat ≤ SZ) : fRg1 m ρ st = .ok (rangeD 0 j) st1 := by
  unfold fRg1
  rw [h]
  exact if_pos hj
theorem u_rg {n : Nat} {m : EM} {ρ : EE} {st st1 : DS} (h : m ρ st = .ok (nD n) st1) (hn : n ≤ 1000000) : fRg1 m ρ st = .ok ((List.range n).map nD) st1 := by
  rw [← rangeD_nat]
  refine u_rgZ h ⟨by omega, by omega, ?_⟩
  rw [Int.toNat_natCast]
  exact Nat.le_trans hn (by decide)
/-- a for that ends at the first place that fits -/
theorem for_find {α : Type} {f : α → D} {p : α → Bool} {r : α → D} {i : Nat} {nb : SM} {st : DS} : ∀ {xs : List α} {ρ : SE}, i < ρ.length → notLent ρ i = true → (∀ a ∈ xs, (p a = true ∧ ∃ o, nb (ρ.set i (some (.sh, f a))) st = .ok (.rt (r a), o) st) ∨ (p a = false ∧ nb (ρ.set i (some (.sh, f a))) st = .ok (.nx, ρ.set i (some (.sh, f a))) st)) →
    match xs.find? p with
    | some a => ∃ ρ', forL (.nm i) nb (xs.map f) ρ st = .ok (.rt (r a), ρ') st
    | none => ∃ o, okS o ∧ forL (.nm i) nb (xs.map f) ρ st = .ok (.nx, if xs = [] then ρ else ρ.set i o) st := by
  intro xs
  induction xs with
  | nil => intro ρ hl hn h; exact ⟨none, okS_none, rfl⟩
  | cons a xs ih =>
    intro ρ hl hn h
    have hb : bindSE (.nm i) (f a) ρ = some (ρ.set i (some (.sh, f a))) := by show (if _ then _ else _) = _; rw [if_pos hn]
    rcases h a List.mem_cons_self with ⟨hp, o, e⟩ | ⟨hp, e⟩
    · rw [List.find?_cons_of_pos hp]
      refine ⟨o, ?_⟩
      rw [List.map_cons]
      unfold forL
      rw [hb]
      show (nb _ st).bind _ = _
      rw [e]
      rfl
    · rw [List.find?_cons_of_neg (by rw [hp]; exact Bool.false_ne_true)]
      have hl' : i < (ρ.set i (some (Kd.sh, f a))).length := by rw [List.length_set]; exact hl
      have hn' : notLent (ρ.set i (some (Kd.sh, f a))) i = true := by unfold notLent; rw [List.getElem?_set_self hl]
      have ih' := ih (ρ := ρ.set i (some (.sh, f a))) hl' hn' fun b hb => by
        have := h b (List.mem_cons_of_mem _ hb)
        rw [List.set_set]
        exact this
      have st1 : forL (.nm i) nb ((a :: xs).map f) ρ st = forL (.nm i) nb (xs.map f) (ρ.set i (some (.sh, f a))) st := by
        rw [List.map_cons]
        conv => lhs; unfold forL
        rw [hb]
        show (nb _ st).bind _ = _
        rw [e]
        rfl
      cases hf : xs.find? p with
      | some b =>
        rw [hf] at ih'
        obtain ⟨ρ', e'⟩ := ih'
        exact ⟨ρ', by rw [st1, e']⟩
      | none =>
        rw [hf] at ih'
        obtain ⟨o, ho, e'⟩ := ih'
        by_cases hx : xs = []
        · subst hx
          exact ⟨some (.sh, f a), okS_sh, by rw [st1, e']; rfl⟩
        · refine ⟨o, ho, ?_⟩
          rw [st1, e', if_neg hx, if_neg (List.cons_ne_nil _ _), List.set_set]
/-- the same, where more of the names change -/
theorem for_findC {α : Type} {f : α → D} {p : α → Bool} {r : α → D} {i : Nat} {nb : SM} {st : DS} (C : SE → Prop) (hn : ∀ ρ, C ρ → notLent ρ i = true) : ∀ {xs : List α} {ρ : SE}, C ρ → (∀ a ∈ xs, ∀ ρ, C ρ → (p a = true ∧ ∃ o, nb (ρ.set i (some (.sh, f a))) st = .ok (.rt (r a), o) st) ∨ (p a = false ∧ ∃ ρ', C ρ' ∧ nb (ρ.set i (some (.sh, f a))) st = .ok (.nx, ρ') st)) →
    match xs.find? p with
    | some a => ∃ ρ', forL (.nm i) nb (xs.map f) ρ st = .ok (.rt (r a), ρ') st
    | none => ∃ ρ', C ρ' ∧ forL (.nm i) nb (xs.map f) ρ st = .ok (.nx, ρ') st := by
  intro xs
  induction xs with
  | nil => intro ρ hc h; exact ⟨ρ, hc, rfl⟩
  | cons a xs ih =>
    intro ρ hc h
    have hb : bindSE (.nm i) (f a) ρ = some (ρ.set i (some (.sh, f a))) := by show (if _ then _ else _) = _; rw [if_pos (hn ρ hc)]
    rcases h a List.mem_cons_self ρ hc with ⟨hp, o, e⟩ | ⟨hp, ρ1, c1, e⟩
    · rw [List.find?_cons_of_pos hp]
      refine ⟨o, ?_⟩
      rw [List.map_cons]
      unfold forL
      rw [hb]
      show (nb _ st).bind _ = _
      rw [e]
      rfl
    · rw [List.find?_cons_of_neg (by rw [hp]; exact Bool.false_ne_true)]
      have ih' := ih c1 fun b hb => h b (List.mem_cons_of_mem _ hb)
      have st1 : forL (.nm i) nb ((a :: xs).map f) ρ st = forL (.nm i) nb (xs.map f) ρ1 st := by
        rw [List.map_cons]
        conv => lhs; unfold forL
        rw [hb]
        show (nb _ st).bind _ = _
        rw [e]
        rfl
      rw [st1]
      exact ih'
theorem u_whl {c : TM} {nb : SM} {k : Nat} {ρ ρ2 : SE} {st st1 st2 : DS} (hc : c (er ρ) st = .ok true st1) (hb : nb ρ st1 = .ok (.nx, ρ2) st2) : whlL c nb (k + 1) ρ st = whlL c nb k ρ2 st2 := by
  conv => lhs; unfold whlL
  rw [hc]
  show (nb ρ st1).bind _ = _
  rw [hb]
  rfl
theorem u_whl_end {c : TM} {nb : SM} {k : Nat} {ρ : SE} {st st1 : DS} (hc : c (er ρ) st = .ok false st1) : whlL c nb (k + 1) ρ st = .ok (.nx, ρ) st1 := by
  unfold whlL
  rw [hc]
  rfl
theorem u_whl_rt {c : TM} {nb : SM} {k : Nat} {d : D} {ρ ρ2 : SE} {st st1 st2 : DS} (hc : c (er ρ) st = .ok true st1) (hb : nb ρ st1 = .ok (.rt d, ρ2) st2) : whlL c nb (k + 1) ρ st = .ok (.rt d, ρ2) st2 := by
  unfold whlL
  rw [hc]
  show (nb ρ st1).bind _ = _
  rw [hb]
  rfl
theorem ixs_nat {l : List Nat} : D.ints (l.map nD) = some (l.map fun x : Nat => (x : Int)) := by
  induction l with
  | nil => rfl
  | cons a l ih =>
    show (D.ints (l.map nD)).map ((a : Int) :: ·) = _
    rw [ih]
    rfl
theorem u_rem {l : List Nat} {x : Nat} (hx : x ∈ l) (nd : l.Nodup) : remK (l.map nD) (nD x) = some ((l.filter (· ≠ x)).map nD) := by
  show (D.ints (l.map nD)).bind (fun ns => (ns.findIdx? (· == (x : Int))).map fun j => (l.map nD).eraseIdx j) = _
  rw [ixs_nat]
  show ((l.map fun x : Nat => (x : Int)).findIdx? (· == (x : Int))).map (fun j => (l.map nD).eraseIdx j) = _
  induction l with
  | nil => cases hx
  | cons a l ih =>
    obtain ⟨na, nl⟩ := List.nodup_cons.mp nd
    by_cases e : a = x
    · subst e
      simp only [List.map_cons, List.findIdx?_cons, beq_self_eq_true, if_true, Option.map_some, List.eraseIdx_zero, List.tail_cons]
      rw [List.filter_cons_of_neg (by simp), List.filter_eq_self.mpr fun b hb => by simp; exact fun e => na (by rw [← e]; exact hb)]
    · have hx' : x ∈ l := (List.mem_cons.mp hx).resolve_left fun z => e z.symm
      have ih' := ih hx' nl
      simp only [List.map_cons, List.findIdx?_cons]
      have ne : ((a : Int) == (x : Int)) = false := by rw [beq_eq_false_iff_ne]; omega
      rw [ne, List.filter_cons_of_pos (by simp [e])]
      cases hf : (l.map fun x : Nat => (x : Int)).findIdx? (· == (x : Int)) with
      | none => rw [hf] at ih'; cases ih'
      | some j =>
        rw [hf] at ih'
        have ih' : some ((l.map nD).eraseIdx j) = some ((l.filter (· ≠ x)).map nD) := ih'
        injection ih' with ih'
        simp only [Bool.false_eq_true, if_false, Option.map_some, List.map_cons, List.eraseIdx_cons_succ, ih']
theorem u_forD {t : Tg} {nb : SM} {d : D} {ds : List D} {ρ ρ1 ρ2 : SE} {st st1 : DS} {r : SR} (hb : bindSE t d ρ = some ρ1) (hn : nb ρ1 st = .ok (.nx, ρ2) st1) (h : forL t nb ds ρ2 st1 = r) : forL t nb (d :: ds) ρ st = r := by
  conv => lhs; unfold forL
  rw [hb]
  show (nb ρ1 st).bind _ = _
  rw [hn]
  exact h
theorem u_for {t : Tg} {nb : SM} {d : D} {ds : List D} {ρ ρ1 ρ2 : SE} {st st2 : DS} {r : SR} (hb : bindSE t d ρ = some ρ1) (hn : nb ρ1 st = .ok (.nx, ρ2) st2) (h : forL t nb ds ρ2 st2 = r) : forL t nb (d :: ds) ρ st = r := by
  conv => lhs; unfold forL
  rw [hb]
  show (nb ρ1 st).bind _ = _
  rw [hn]
  exact h
/-- a for within a for, nothing lent -/
theorem u_sfor {it : AM} {t : Tg} {nb : SM} {ρ ρ' : SE} {st st1 st2 : DS} {xs : List D} (h : it (erL ρ) st = .ok xs st1) (hp : D.pures xs = true) (h2 : forL t nb xs ρ st1 = .ok (.nx, ρ') st2) : sFor [] it t nb ρ st = .ok (.nx, ρ') st2 :=
  s_for (ls := []) h (.inl hp) (by show (forL t nb xs ρ st1).bind (fin []) = _; rw [h2]; rfl)
theorem u_sforS {it : AM} {t : Tg} {nb : SM} {ρ ρ' : SE} {st st1 st2 : DS} {xs : List D} (h : it (erL ρ) st = .ok xs st1) (hp : D.pures xs = true) (h2 : forL t nb xs ρ st1 = .ok (.nx, ρ') st2) : sFor [] it t nb ρ st = .ok (.nx, ρ') st2 := u_sfor h hp h2
theorem u_bind2 {ρ : SE} {i j : Nat} {o o' : Option (Kd × D)} {x y : D} (h : ρ[i]? = some o) (ho : okS o) (h' : ρ[j]? = some o') (ho' : okS o') : bindSE (.tp [i, j]) (.tup [x, y]) ρ = some ((ρ.set i (some (.sh, x))).set j (some (.sh, y))) := by
  have nl : ∀ {i : Nat} {o : Option (Kd × D)}, ρ[i]? = some o → okS o → notLent ρ i = true := fun {i o} h ho => by
    unfold notLent
    rw [h]
    cases o with
    | none => rfl
    | some q =>
      obtain ⟨k, d⟩ := q
      cases k with
      | lent => exact absurd rfl (ho d)
      | _ => rfl
  have c : [x, y].length = [i, j].length ∧ [i, j].all (notLent ρ) = true := ⟨rfl, by show (notLent ρ i && (notLent ρ j && true)) = true; rw [nl h ho, nl h' ho']; rfl⟩
  show (if [x, y].length = [i, j].length ∧ [i, j].all (notLent ρ) = true then _ else _) = _
  rw [if_pos c]
  rfl
theorem u_ext {i : Nat} {g : GM} {ρ ρ' : SE} {st st1 : DS} {zs xs ys : List D} (h0 : ρ[i]? = some (some (.own, .lst zs))) (h : g ρ st = .ok (.lst ys, ρ') st1) (h1 : ρ'[i]? = some (some (.own, .lst xs))) (hl : xs.length + ys.length ≤ SZ) : gExtend i g ρ st = .ok (.non, ρ'.set i (some (.own, .lst (xs ++ ys)))) st1 := by
  unfold gExtend
  rw [h0]
  show (g ρ st).bind _ = _
  rw [h]
  show (match extK ρ'[i]? (.lst ys) with | some zs => _ | none => _) = _
  have e : extK ρ'[i]? (.lst ys) = some (xs ++ ys) := by
    rw [h1]
    show (if _ then _ else _) = _
    rw [if_pos hl]
  rw [e]
theorem x_leA {i j : Int} : xLeA (.int i) (.int j) = some (.bl (decide (i ≤ j))) := rfl
theorem lt_n (a b : Nat) : PySem.W.dataLt (nD a).py (nD b).py = decide (a < b) := by
  show PyProof.Rows.lexLt itemOrd [.inl (a : Int)] [.inl (b : Int)] = _
  rw [Bool.eq_iff_iff, decide_eq_true_iff]
  simp only [PyProof.Rows.lex_cons]
  show (decide ((a : Int) < b) || (!decide ((b : Int) < a) && false)) = true ↔ _
  simp
theorem u_sortable {l : List Nat} (hl : l.length ≤ SZ) : sortable (l.map nD) = true := by
  unfold sortable
  rw [(nbs_plain 0 _ (nbs_map fun a _ => nb_n a)).1]
  have h1 : ((l.map nD).all fun d => (l.map nD).all fun d' => PySem.W.alike d.py d'.py) = true := by
    simp only [List.all_map, List.all_eq_true, Function.comp]
    intro p _ q _
    rfl
  have h2 : ((l.map nD).all fun d => isAtom d.py) = true := by
    simp only [List.all_map, List.all_eq_true, Function.comp]
    intro p _
    rfl
  have h3 : ((l.map nD).all fun d => decide (d.py.depth ≤ 32)) = true := by
    simp only [List.all_map, List.all_eq_true, Function.comp]
    intro p _
    have := (nb_plain 0 _ (nb_n p)).2.2
    exact decide_eq_true (by omega)
  rw [h1, h2, h3, List.length_map, decide_eq_true hl]
  simp
theorem u_sortD {l L : List Nat} (hp : l.Perm L) (hs : L.Pairwise (· < ·)) : sortD (l.map nD) = L.map nD := by
  unfold sortD
  have le_trans : ∀ a b c : D, PySem.W.dataLe false D.py a b = true → PySem.W.dataLe false D.py b c = true → PySem.W.dataLe false D.py a c = true := fun a b c => (PySem.W.sortLe_total (PyProof.Rows.listOrd PyProof.Rows.itemOrd) false (fun b : D => PySem.W.keyToks b.py)).trans a b c
  have le_total : ∀ a b : D, (PySem.W.dataLe false D.py a b || PySem.W.dataLe false D.py b a) = true := fun a b => by
    have := (PySem.W.sortLe_total (PyProof.Rows.listOrd PyProof.Rows.itemOrd) false (fun b : D => PySem.W.keyToks b.py)).total a b
    exact Bool.or_eq_true_iff.mpr this
  have leT : ∀ l l' : Nat, PySem.W.dataLe false D.py (nD l) (nD l') = true ↔ ¬ (l' < l) := fun l l' => by
    show (!PySem.W.dataLt (nD l').py (nD l).py) = true ↔ _
    rw [lt_n, Bool.not_eq_true', decide_eq_false_iff_not]
  have p1 : ((l.map nD).mergeSort (PySem.W.dataLe false D.py)).Perm (L.map nD) := (List.mergeSort_perm _ _).trans (hp.map nD)
  refine List.Perm.eq_of_pairwise (le := fun a b => PySem.W.dataLe false D.py a b = true) ?_ (List.pairwise_mergeSort le_trans le_total _) ?_ p1
  · intro a b ha hb h1 h2
    obtain ⟨q, _, rfl⟩ := List.mem_map.mp hb
    obtain ⟨p, _, rfl⟩ := List.mem_map.mp (p1.mem_iff.mp ha)
    rw [leT] at h1 h2
    rw [show p = q by omega]
  · rw [List.pairwise_map]
    refine hs.imp fun {a b} hlt => ?_
    rw [leT]
    omega
theorem u_sortN {l L : List Nat} (hl : l.length ≤ SZ) (hp : l.Perm L) (hs : L.Pairwise (· < ·)) : xSorted [.lst (l.map nD)] = some (L.map nD) := by
  show (if _ then _ else _) = _
  rw [if_pos (u_sortable hl), u_sortD hp hs]
theorem u_sortNT {l L : List Nat} (hl : l.length ≤ SZ) (hp : l.Perm L) (hs : L.Pairwise (· < ·)) : xSortedT [.tup (l.map nD)] = some (L.map nD) := by
  show (if _ then _ else _) = _
  rw [if_pos (u_sortable hl), u_sortD hp hs]
theorem u_sort {n : Nat} {l : List Nat} (hp : l.Perm (List.range n)) (hl : n ≤ 1000000) : xSorted [.lst (l.map nD)] = some ((List.range n).map nD) :=
  u_sortN (by rw [hp.length_eq, List.length_range]; show _ ≤ 16777216; omega) hp List.pairwise_lt_range
theorem u_seq_at {v m : Nat} (h : v < m) : seqIndex? ((v : Nat) : Int) m = some v := by
  unfold seqIndex?
  have j : (if ((v : Nat) : Int) < 0 then ((v : Nat) : Int) + (m : Int) else ((v : Nat) : Int)) = ((v : Nat) : Int) := if_neg (by omega)
  simp only [j]
  rw [if_pos (by simp; omega), Int.toNat_natCast]
theorem u_popK {xs : List D} {v : Nat} {d : D} (h : xs[v]? = some d) (hl : xs.length ≤ 1000) : popK xs (nD v) = some (d, xs.eraseIdx v) := by
  have hv := (List.getElem?_eq_some_iff.mp h).1
  unfold popK nD
  show (if -(2 ^ 63) ≤ ((v : Nat) : Int) ∧ ((v : Nat) : Int) < 2 ^ 63 then (seqIndex? ((v : Nat) : Int) xs.length).bind fun k => xs[k]?.map fun d => (d, xs.eraseIdx k) else none) = _
  rw [if_pos ⟨by omega, by omega⟩, u_seq_at hv]
  show (xs[v]?).map _ = _
  rw [h]
  rfl
theorem u_er_map {f : Nat → D} : ∀ (l : List Nat) (v : Nat), (l.map f).eraseIdx v = (l.eraseIdx v).map f
  | [], _ => rfl
  | _ :: _, 0 => rfl
  | a :: l, v + 1 => by
    show f a :: (l.map f).eraseIdx v = f a :: (l.eraseIdx v).map f
    rw [u_er_map l v]
theorem u_pop_at {left : List Nat} {v : Nat} (hv : v < left.length) (hl : left.length ≤ 1000) : popK (left.map nD) (nD v) = some (nD (left[v]), (left.eraseIdx v).map nD) := by
  rw [u_popK (d := nD left[v]) (by rw [List.getElem?_map, List.getElem?_eq_getElem hv]; rfl) (by rw [List.length_map]; exact hl), u_er_map]
theorem u_erase_perm : ∀ {l : List Nat} {v : Nat} (h : v < l.length), (l[v] :: l.eraseIdx v).Perm l
  | a :: l, 0, _ => List.Perm.refl _
  | a :: l, v + 1, h => by
    have hv : v < l.length := by simpa using h
    have ih := u_erase_perm (l := l) (v := v) hv
    show (l[v] :: a :: l.eraseIdx v).Perm (a :: l)
    exact (List.Perm.swap a _ _).trans (ih.cons a)
theorem u_gpop {i : Nat} {m : EM} {ρ : SE} {st st1 : DS} {l : List Nat} {v : Nat} (h1 : ρ[i]? = some (some (.own, .lst (l.map nD)))) (h : m (er ρ) st = .ok (nD v) st1) (hv : v < l.length) (hl : l.length ≤ 1000) : gPopAt i m ρ st = .ok (nD (l[v]), ρ.set i (some (.own, .lst ((l.eraseIdx v).map nD)))) st1 := by
  unfold gPopAt
  rw [h1]
  have e : (Res.of (popK (l.map nD) (nD v)) st1) = .ok (nD l[v], (l.eraseIdx v).map nD) st1 := by rw [u_pop_at hv hl]; rfl
  show ((m (er ρ) st).bind fun j st1 => (Res.of (popK (l.map nD) j) st1).bind fun r st1 => .ok (r.1, ρ.set i (some (.own, .lst r.2))) st1) = _
  rw [h, Res.bind_ok, e, Res.bind_ok]
theorem u_setG {i : Nat} {gm : GM} {ρ ρ' : SE} {st st1 : DS} {d : D} (h : gm ρ st = .ok (d, ρ') st1) (hn : notLent ρ' i = true) : sSetG i gm ρ st = .ok (.nx, ρ'.set i (some (.sh, d))) st1 := by
  unfold sSetG
  rw [h, Res.bind_ok, if_pos hn]
theorem u_true {r : SR} {st' : DS} (h : retD r = .ok (.bl true) st') : isTrue r = true := by
  cases r with
  | ok a s =>
    obtain ⟨f, ρ⟩ := a
    cases f with
    | rt d =>
      have h : Res.ok d s = .ok (.bl true) st' := h
      cases h
      rfl
    | nx => cases h
    | bk => cases h
    | ct => cases h
  | exc c fs s => cases h
  | stuck => cases h
theorem u_callX {st : DS} {n : Nat} {F : FM} {am : AM} {ρ : EE} {st1 st2 : DS} {xs : List D} {c : Str} {fs : List (Str × D)} (h : am ρ st = .ok xs st1) (hl : xs.length = n) (hF : F xs st1 = .exc c fs st2) : cCallN n F am ρ st = .exc c fs st2 := by
  unfold cCallN
  rw [h, Res.bind_ok, if_pos hl]
  exact hF
theorem u_try {st : DS} {c : Str} {i : Nat} {a b s : SM} {ρ ρ1 ρ2 : SE} {st1 st2 : DS} (h1 : a ρ st = .ok (.nx, ρ1) st1) (h2 : b ρ1 st1 = .ok (.nx, ρ2) st2) : sTryAs c i a b s ρ st = .ok (.nx, ρ2) st2 := by
  unfold sTryAs
  rw [h1]
  show noX (b ρ1 st1) = _
  rw [h2]
  rfl
theorem u_tryX {st : DS} {c : Str} {i : Nat} {a b s : SM} {ρ ρ2 : SE} {st1 st2 : DS} {fs : List (Str × D)} (h1 : a ρ st = .exc c fs st1) (hn : notLent ρ i = true) (h2 : s (ρ.set i none) st1 = .ok (.nx, ρ2) st2) (hn2 : notLent ρ2 i = true) : sTryAs c i a b s ρ st = .ok (.nx, ρ2.set i none) st2 := by
  unfold sTryAs
  rw [h1]
  show (if c = c ∧ notLent ρ i = true then offN i (s (ρ.set i none) st1) else .stuck) = _
  rw [if_pos ⟨rfl, hn⟩, h2]
  show (if notLent ρ2 i = true then (.ok (.nx, ρ2.set i none) st2 : SR) else .stuck) = _
  rw [if_pos hn2]
theorem u_seq3 {a b c d : SM} {ρ ρ' : SE} {st st1 : DS} (h : sSeq a (sSeq b c) ρ st = .ok (.nx, ρ') st1) : sSeq a (sSeq b (sSeq c d)) ρ st = d ρ' st1 := by
  have e : sSeq a (sSeq b (sSeq c d)) ρ st = sSeq (sSeq a (sSeq b c)) d ρ st := by
    rw [sSeq_assoc]
    unfold sSeq
    cases a ρ st with
    | ok r st2 =>
      obtain ⟨f, ρ2⟩ := r
      cases f with
      | nx =>
        show sSeq b (sSeq c d) ρ2 st2 = sSeq (sSeq b c) d ρ2 st2
        rw [sSeq_assoc]
      | _ => rfl
    | exc x y z => rfl
    | stuck => rfl
  rw [e]
  exact s_seq h rfl
theorem u_xOd {f : EM} {r : XM} {ρ : SE} {st st1 st2 : DS} {d : D} {l : List (Kd × D)} (h : f (er ρ) st = .ok d st1) (hd : isDic d = true) (h' : r ρ st1 = .ok l st2) : xOd f r ρ st = .ok ((.own, d) :: l) st2 := by
  unfold xOd
  rw [h, Res.bind_ok, if_pos hd, h']
  rfl
theorem u_rgT {n : Nat} {m : EM} {ρ : EE} {st st1 : DS} (h : m ρ st = .ok (nD n) st1) (hn : n ≤ 1000000) : cRgT1 m ρ st = .ok (.tup ((List.range n).map nD)) st1 := by
  unfold cRgT1
  rw [u_rg h hn, Res.bind_ok]

theorem okS_own' {d : D} : okS (some (.own, d)) := fun _ e => by cases e
end LW

namespace LW
variable {n x y : Nat} {G : Nat → Nat → Bool} {st : DS} {W : List Nat}
theorem q_forR {it : AM} {t : Tg} {nb n2 : SM} {ρ ρ' : SE} {st1 st2 : DS} {xs : List D} {d : D} (h : it (erL ρ) st = .ok xs st1) (hp : D.pures xs = true ∨ lents ρ = []) (h2 : forL t nb xs ρ st1 = .ok (.rt d, ρ') st2) : retD (sSeq (sFor [] it t nb) n2 ρ st) = .ok d st2 := by
  rw [s_seqR (s_for (ls := []) (r := .ok (.rt d, ρ') st2) h hp ?_)]
  · rfl
  · show (forL t nb xs ρ st1).bind (fin []) = _
    rw [h2]; rfl
theorem fr_len : (frL n G x).length ≤ n := by
  unfold frL
  exact Nat.le_trans (List.length_filter_le _ _) (by rw [List.length_range]; omega)
theorem nbW_eq : (frL n G x).filter (fun y => false ^^ decide (y ∈ W)) = nbW n G x W := by unfold nbW; simp
theorem nb_comp {ρ : EE} {d : D} {i j v : Nat} {nm : String} (g : Gr G) (hn : n ≤ 8) (hx : x < n) {F : FM} (hF : F [hD n G, nD x] st = .ok (.lst ((frL n G x).map nD)) st) (h0 : cVar 0 ρ st = .ok (hD n G) st) (h1 : cVar i ρ st = .ok (nD x) st) (hb : ∀ y, ∃ ρ', bindE (.nm v) (nD y) (wipeE ρ [v]) = some ρ' ∧ cVar v ρ' st = .ok (nD y) st ∧ cVar 2 ρ' st = .ok d st) (hd : ∀ y, xInA false (nD y) d = some (.bl (false ^^ decide (y ∈ W)))) :
    fComp [v] (.nm v) (iSeq (cCallN 2 F (aCons (cVar 0) (aCons (cVar i) (aNil))))) (cTest (cOp (xInA false) (cVar v) (cVar 2))) (cVar v) ρ st = .ok ((nbW n G x W).map nD) st := by
  rw [← nbW_eq]
  refine w_compF (f := nD) (g := nD) (p := fun y => false ^^ decide (y ∈ W)) (xs := frL n G x) (w_seqL (e_call0 (xs := [hD n G, nD x]) (e_cons0 h0 (e_cons0 h1 e_nil)) rfl hF)) (by have := fr_len (n := n) (G := G) (x := x); omega) fun a ha => ?_
  obtain ⟨ρ', b1, b2, b3⟩ := hb a
  exact ⟨ρ', b1, t_test (e_op0 b2 b3 (hd a)), fun _ => b2⟩
theorem nb_comp2 {ρ : EE} {d : D} {v : Nat} (g : Gr G) (hn : n ≤ 8) (hy : y < n) {F : FM} (hF : F [hD n G, nD y] st = .ok (.lst ((frL n G y).map nD)) st) (h0 : cVar 0 ρ st = .ok (hD n G) st) (h1 : cVar 3 ρ st = .ok (nD y) st) (hb : ∀ z, ∃ ρ', bindE (.nm v) (nD z) (wipeE ρ [v]) = some ρ' ∧ cVar v ρ' st = .ok (nD z) st ∧ cVar 2 ρ' st = .ok d st ∧ cVar 1 ρ' st = .ok (nD x) st) (hd : ∀ y, xInA false (nD y) d = some (.bl (false ^^ decide (y ∈ W)))) :
    fComp [v] (.nm v) (iSeq (cCallN 2 F (aCons (cVar 0) (aCons (cVar 3) (aNil))))) (cAnd (cTest (cOp (xInA false) (cVar v) (cVar 2))) (cTest (cOp xNe (cVar v) (cVar 1)))) (cVar v) ρ st = .ok (((nbW n G y W).filter fun z => !decide (z = x)).map nD) st := by
  have e : (nbW n G y W).filter (fun z => !decide (z = x)) = (frL n G y).filter fun z => (false ^^ decide (z ∈ W)) && !decide (z = x) := by
    unfold nbW
    rw [List.filter_filter]
    exact List.filter_congr fun z _ => by cases decide (z ∈ W) <;> simp
  rw [e]
  refine w_compF (f := nD) (g := nD) (p := fun z => (false ^^ decide (z ∈ W)) && !decide (z = x)) (xs := frL n G y) (w_seqL (e_call0 (xs := [hD n G, nD y]) (e_cons0 h0 (e_cons0 h1 e_nil)) rfl hF)) (by have := fr_len (n := n) (G := G) (x := y); omega) fun a ha => ?_
  obtain ⟨ρ', b1, b2, b3, b4⟩ := hb a
  exact ⟨ρ', b1, t_andB (t_test (e_op0 b2 b3 (hd a))) (fun _ => t_test (e_op0 b2 b4 u_neN)), fun _ => b2⟩
theorem nb_few (hn : n ≤ 8) : (nbW n G x W).length ≤ 8 := Nat.le_trans (List.length_filter_le _ _) (Nat.le_trans fr_len hn)
theorem cut_comp {ρ : EE} {i v : Nat} {l : List Nat} (h0 : cVar i ρ st = .ok (.lst (l.map nD)) st) (hl : l.length ≤ 1000) (hb : ∀ z, ∃ ρ', bindE (.nm v) (nD z) (wipeE ρ [v]) = some ρ' ∧ cVar v ρ' st = .ok (nD z) st ∧ cVar 3 ρ' st = .ok (nD y) st) :
    fComp [v] (.nm v) (iSeq (cVar i)) (cTest (cOp xNe (cVar v) (cVar 3))) (cVar v) ρ st = .ok ((l.filter fun z => !decide (z = y)).map nD) st := by
  refine w_compF (f := nD) (g := nD) (p := fun z => !decide (z = y)) (xs := l) (w_seqL h0) (by omega) fun a ha => ?_
  obtain ⟨ρ', b1, b2, b3⟩ := hb a
  exact ⟨ρ', b1, t_test (e_op0 b2 b3 u_neN), fun _ => b2⟩
theorem stD_ne {b : Bool} : (if b = true then D.str "friend" else D.str "stranger") = .str (if b = true then "friend" else "stranger") := by cases b <;> rfl
def sfE (n : Nat) (G : Nat → Nat → Bool) (x : Nat) (W : List Nat) (o3 : Option (Kd × D)) : SE := [some (.sh, hD n G), some (.sh, nD x), some (.sh, .lst (W.map nD)), o3, some (.sh, .lst ((nbW n G x W).map nD)), none]
theorem step_for_eq (g : Gr G) (hn : n ≤ 8) (hx : x < n) (hW : ∀ z ∈ W, z < n) (hl : W.length ≤ 1000) : f_step_for [hD n G, nD x, .lst (W.map nD)] st = .ok (optSg (stepF n G x W)) st := by
  refine f_ret ?_
  unfold b_step_for
  refine q_step (st1 := st) (ρ' := sfE n G x W none) (s_setS (d := .lst ((nbW n G x W).map nD)) (e_lst (nb_comp (nm := "") (j := 0) g hn hx (friends_of_eq g hn hx) rfl rfl (fun y => ⟨_, rfl, rfl, rfl⟩) fun y => u_inL)) rfl) ?_
  refine q_ifS0 (k := (nbW n G x W).isEmpty) (t_test (e_op0 (x := .lst ((nbW n G x W).map nD)) (y := .lst []) rfl (e_lst (e_lim e_nil (by decide))) (by rw [u_nil (nb_ns _) (by decide)]; cases nbW n G x W <;> rfl))) ?_
  unfold stepF
  by_cases h0 : nbW n G x W = []
  · rw [if_pos h0]
    refine .inl ⟨by rw [h0]; rfl, ?_⟩
    exact q_retS (e_tup (xs := [.str "alone", nD x]) (e_cons0 e_con (e_cons0 rfl e_nil)) (by show 2 ≤ 16777216; decide))
  rw [if_neg h0]
  refine .inr ⟨by cases h : nbW n G x W with | nil => exact absurd h h0 | cons a b => rfl, q_nop ?_⟩
  refine q_ifS0 (k := decide ((nbW n G x W).length = 1)) (t_test (e_op0 (x := nD (nbW n G x W).length) (y := nD 1) (e_blt0 (xs := [.lst ((nbW n G x W).map nD)]) (e_cons0 rfl e_nil) (by rw [u_len, List.length_map])) e_con u_eqN)) ?_
  by_cases h1 : (nbW n G x W).length = 1
  · rw [if_pos h1]
    refine .inl ⟨decide_eq_true h1, ?_⟩
    obtain ⟨u, hu⟩ := nb_one h1
    exact q_retS (e_tup (xs := [.str "leaf", nD x, nD ((nbW n G x W).headD 0)]) (e_cons0 e_con (e_cons0 rfl (e_cons0 (e_op0 (x := .lst ((nbW n G x W).map nD)) (y := nD 0) rfl e_con (x_ixL (i := 0) (by rw [hu]; rfl))) e_nil))) (by show 3 ≤ 16777216; decide))
  rw [if_neg h1]
  refine .inr ⟨decide_eq_false h1, q_nop ?_⟩
  have key := for_find (f := nD) (p := fun y => !decide (y = x) && twC n G x y W) (r := fun y => sgD (.twin x y (decide (y ∈ nbW n G x W)))) (i := 3) (st := st) (xs := W) (ρ := sfE n G x W none) (nb := (sIf (cAnd (cTest (cOp xNe (cVar 3) (cVar 1))) (cTest (cOp xEq (cLst (fComp [5] (.nm 5) (iSeq (cVar 4)) (cTest (cOp xNe (cVar 5) (cVar 3))) (cVar 5))) (cLst (fComp [5] (.nm 5) (iSeq (cCallN 2 f_friends_of (aCons (cVar 0) (aCons (cVar 3) (aNil))))) (cAnd (cTest (cOp (xInA false) (cVar 5) (cVar 2))) (cTest (cOp xNe (cVar 5) (cVar 1)))) (cVar 5))))))
  (sRet (cTup (aCons (cCon (.str "twin")) (aCons (cVar 1) (aCons (cVar 3) (aCons (cIf (cTest (cOp (xInA false) (cVar 3) (cVar 4))) (cCon (.str "friend")) (cCon (.str "stranger"))) (aNil)))))))
  (sNop))) (by show 3 < 6; decide) rfl fun y hy => ?_
  · cases hf : W.find? fun y => !decide (y = x) && twC n G x y W with
    | some y =>
      rw [hf] at key
      obtain ⟨ρ', key⟩ := key
      exact q_forR (w_seqL rfl) (.inr rfl) key
    | none =>
      rw [hf] at key
      obtain ⟨o, ho, key⟩ := key
      refine q_forN (w_seqL rfl) (.inr rfl) key ?_
      exact q_ret e_con
  · have hy' := hW y hy
    have hc : cAnd (cTest (cOp xNe (cVar 3) (cVar 1))) (cTest (cOp xEq (cLst (fComp [5] (.nm 5) (iSeq (cVar 4)) (cTest (cOp xNe (cVar 5) (cVar 3))) (cVar 5))) (cLst (fComp [5] (.nm 5) (iSeq (cCallN 2 f_friends_of (aCons (cVar 0) (aCons (cVar 3) (aNil))))) (cAnd (cTest (cOp (xInA false) (cVar 5) (cVar 2))) (cTest (cOp xNe (cVar 5) (cVar 1)))) (cVar 5))))) (er (sfE n G x W (some (.sh, nD y)))) st = .ok (!decide (y = x) && twC n G x y W) st :=
      t_andB (t_test (e_op0 (x := nD y) (y := nD x) rfl rfl u_neN)) fun _ => t_test (e_op0 (x := .lst (((nbW n G x W).filter fun z => !decide (z = y)).map nD)) (y := .lst (((nbW n G y W).filter fun z => !decide (z = x)).map nD)) (e_lst (cut_comp rfl (by have := nb_few (n := n) (G := G) (x := x) (W := W) hn; omega) fun z => ⟨_, rfl, rfl, rfl⟩)) (e_lst (nb_comp2 g hn hy' (friends_of_eq g hn hy') rfl rfl (fun z => ⟨_, rfl, rfl, rfl, rfl⟩) fun y => u_inL)) u_eqL)
    cases hp : (!decide (y = x) && twC n G x y W) with
    | true =>
      refine .inl ⟨rfl, _, s_ifT hc hp (s_ret (e_tup (xs := [.str "twin", nD x, nD y, .str (if decide (y ∈ nbW n G x W) = true then "friend" else "stranger")]) (e_cons0 e_con (e_cons0 rfl (e_cons0 rfl (e_cons0 ?_ e_nil)))) (by show 4 ≤ 16777216; decide)))⟩
      refine e_if (k := decide (y ∈ nbW n G x W)) (st1 := st) (t_test (e_op0 (x := nD y) (y := .lst ((nbW n G x W).map nD)) rfl rfl (by rw [u_inL, Bool.false_xor]))) ?_
      cases decide (y ∈ nbW n G x W) <;> rfl
    | false => exact .inr ⟨rfl, s_ifF hc hp s_nop⟩
end LW

namespace LW
variable {n x y : Nat} {G : Nat → Nat → Bool} {st : DS} {W : List Nat}
theorem so_a : PyData.strOk "alone" = true := by decide +kernel
theorem so_l : PyData.strOk "leaf" = true := by decide +kernel
theorem so_t : PyData.strOk "twin" = true := by decide +kernel
theorem so_f : PyData.strOk "friend" = true := by decide +kernel
theorem so_s : PyData.strOk "stranger" = true := by decide +kernel
theorem nb_sg (s : Sg) : (sgD s).nb 1 = true := by
  cases s with
  | alone x => show (PyData.strOk "alone" && _) = true; rw [so_a]; rfl
  | leaf x y => show (PyData.strOk "leaf" && _) = true; rw [so_l]; rfl
  | twin x y f =>
    show (PyData.strOk "twin" && (true && (true && (PyData.strOk (if f = true then "friend" else "stranger") && true)))) = true
    rw [so_t]
    cases f
    · show (true && (true && (true && (PyData.strOk "stranger" && true)))) = true
      rw [so_s]; rfl
    · show (true && (true && (true && (PyData.strOk "friend" && true)))) = true
      rw [so_f]; rfl
theorem pure_sg (s : Sg) : (sgD s).pure = true := by cases s <;> rfl
theorem pure_osg (s : Option Sg) : (optSg s).pure = true := by cases s with | none => rfl | some s => exact pure_sg s
theorem u_sgx (s : Sg) : xIx (sgD s) (.int 1) = some (nD s.x) := by cases s <;> exact x_ixT (i := 1) rfl
theorem u_notN (s : Option Sg) : xNotA (optSg s) .non = some (.bl s.isSome) := by
  cases s with
  | none => rfl
  | some s => cases s <;> rfl
theorem fil_map {α β : Type} {f : α → Option β} {g : Option β → D} {h : β → D} (e : ∀ b, g (some b) = h b) : ∀ l : List α, (l.filter fun x => (f x).isSome).map (fun x => g (f x)) = (l.filterMap f).map h
  | [] => rfl
  | a :: l => by
    have ih := fil_map (f := f) (g := g) e l
    cases hf : f a with
    | none => rw [List.filter_cons_of_neg (by rw [hf]; simp), List.filterMap_cons_none hf, ih]
    | some b => rw [List.filter_cons_of_pos (by rw [hf]; rfl), List.filterMap_cons_some hf, List.map_cons, List.map_cons, ih, hf, e]
def soE (n : Nat) (G : Nat → Nat → Bool) (W : List Nat) (acc : List Sg) (o3 o4 : Option (Kd × D)) : SE := [some (.sh, hD n G), some (.own, .lst (W.map nD)), some (.own, .lst (acc.map sgD)), o3, o4, none, none]
def soC : TM := cTest (cOp xGtA (cBlt xLen (aCons (cVar 1) (aNil))) (cCon (.int 1)))
def soB : SM := (sSeq (sOwn 3 (fComp [5] (.nm 5) (iRevM (cVar 1)) (tYesM) (cCallN 3 f_step_for (aCons (cVar 0) (aCons (cVar 5) (aCons (cVar 1) (aNil)))))))
  (sSeq (sOwn 4 (fComp [6] (.nm 6) (iSeq (cVar 3)) (cTest (cOp xNotA (cVar 6) (cCon .non))) (cVar 6)))
  (sSeq (sIf (cTest (cOp xEq (cVar 4) (cLst (cLim (aNil)))))
  (sRet (cCon .non))
  (sNop))
  (sSeq (sExprG (gAppend 2 (gPure (cOp xIx (cVar 4) (cCon (.int 0))))))
  (sExprG (gRemI 1 (cOp xIx (cOp xIx (cVar 4) (cCon (.int 0))) (cCon (.int 1)))))))))
theorem so_c {acc : List Sg} {o3 o4 : Option (Kd × D)} : soC (er (soE n G W acc o3 o4)) st = .ok (decide (1 < W.length)) st :=
  t_test (e_op0 (x := nD W.length) (y := nD 1) (e_blt0 (xs := [.lst (W.map nD)]) (e_cons0 rfl e_nil) (by rw [u_len, List.length_map])) e_con (by
    show some (D.bl (decide ((1 : Nat) < (W.length : Int)))) = _
    congr 2
    rw [Bool.eq_iff_iff, decide_eq_true_iff, decide_eq_true_iff]
    omega))
theorem nl_any {ρ : SE} {i : Nat} {o : Option (Kd × D)} (h : ρ[i]? = some o) (ho : okS o) : notLent ρ i = true := by
  unfold notLent
  rw [h]
  cases o with
  | none => rfl
  | some q =>
    obtain ⟨k, d⟩ := q
    cases k with
    | lent => exact absurd rfl (ho d)
    | _ => rfl
theorem okS_own {d : D} : okS (some (.own, d)) := fun _ e => by cases e
theorem so_b (g : Gr G) (hn : n ≤ 8) (hW : ∀ z ∈ W, z < n) (hl : W.length ≤ 1000) (nd : W.Nodup) {acc : List Sg} (ha : acc.length ≤ 1000) {o3 o4 : Option (Kd × D)} (h3 : okS o3) (h4 : okS o4) :
    match pick n G W with
    | none => ∃ ρ', soB (soE n G W acc o3 o4) st = .ok (.rt .non, ρ') st
    | some s => ∃ o3' o4', okS o3' ∧ okS o4' ∧ soB (soE n G W acc o3 o4) st = .ok (.nx, soE n G (W.filter (· ≠ s.x)) (acc ++ [s]) o3' o4') st := by
  have s3 : sOwn 3 (fComp [5] (.nm 5) (iRevM (cVar 1)) (tYesM) (cCallN 3 f_step_for (aCons (cVar 0) (aCons (cVar 5) (aCons (cVar 1) (aNil)))))) (soE n G W acc o3 o4) st = .ok (.nx, soE n G W acc (some (.own, .lst (W.reverse.map fun x => optSg (stepF n G x W)))) o4) st := by
    refine s_own (w_compA (f := nD) (g := fun x => optSg (stepF n G x W)) (xs := W.reverse) ?_ (by rw [List.length_reverse]; omega) fun a ha => ⟨_, rfl, e_call0 (xs := [hD n G, nD a, .lst (W.map nD)]) rfl rfl (step_for_eq g hn (hW a (List.mem_reverse.mp ha)) hW hl)⟩) ⟨pures_map fun a _ => pure_osg _, nl_any (i := 3) rfl h3⟩
    show (Res.ok (W.map nD).reverse st : Res (List D)) = _
    rw [List.map_reverse]
  have s4 : ∀ {ρ3 : Option (Kd × D)}, ρ3 = some (.own, .lst (W.reverse.map fun x => optSg (stepF n G x W))) → sOwn 4 (fComp [6] (.nm 6) (iSeq (cVar 3)) (cTest (cOp xNotA (cVar 6) (cCon .non))) (cVar 6)) (soE n G W acc ρ3 o4) st = .ok (.nx, soE n G W acc ρ3 (some (.own, .lst ((W.reverse.filterMap fun x => stepF n G x W).map sgD)))) st := by
    rintro _ rfl
    rw [← fil_map (f := fun x => stepF n G x W) (g := optSg) (h := sgD) (fun _ => rfl)]
    refine s_own (w_compF (f := fun x => optSg (stepF n G x W)) (g := fun x => optSg (stepF n G x W)) (p := fun x => (stepF n G x W).isSome) (xs := W.reverse) (w_seqL rfl) (by rw [List.length_reverse]; omega) fun a ha => ⟨_, rfl, t_test (e_op0 rfl e_con (u_notN _)), fun _ => rfl⟩) ⟨pures_map fun a _ => pure_osg _, nl_any (i := 4) rfl h4⟩
  have c4 : ∀ {ρ3 : Option (Kd × D)} {l : List Sg}, cTest (cOp xEq (cVar 4) (cLst (cLim (aNil)))) (er (soE n G W acc ρ3 (some (.own, .lst (l.map sgD))))) st = .ok l.isEmpty st := fun {ρ3 l} =>
    t_test (e_op0 (x := .lst (l.map sgD)) (y := .lst []) rfl (e_lst (e_lim e_nil (by decide))) (by rw [u_nil (nbs_map fun a _ => nb_sg a) (by decide)]; cases l <;> rfl))
  unfold pick
  cases hf : W.reverse.filterMap fun x => stepF n G x W with
  | nil =>
    refine ⟨_, s_seq s3 (s_seq (s4 rfl) (s_seqR (s_ifT c4 ?_ (s_ret e_con))))⟩
    rw [hf]; rfl
  | cons s l =>
    have hs : pick n G W = some s := by unfold pick; rw [hf]; rfl
    obtain ⟨hx, _⟩ := pick_mem hs
    refine ⟨some (.own, .lst (W.reverse.map fun x => optSg (stepF n G x W))), some (.own, .lst ((s :: l).map sgD)), okS_own, okS_own, s_seq s3 (s_seq (s4 rfl) (s_seq (s_ifF c4 (by rw [hf]; rfl) s_nop) ?_))⟩
    rw [hf]
    have ix : ∀ {ρ : EE}, cVar 4 ρ st = .ok (.lst ((s :: l).map sgD)) st → cOp xIx (cVar 4) (cCon (.int 0)) ρ st = .ok (sgD s) st := fun h => e_op0 h e_con (x_ixL (i := 0) rfl)
    refine s_seq (s_exprG (g_append (zs := acc.map sgD) (xs := acc.map sgD) rfl (g_pure (ix rfl) (pure_sg s)) rfl (by rw [List.length_map]; show _ < 16777216; omega))) (r := _) ?_
    have e1 : (soE n G W acc (some (.own, .lst (W.reverse.map fun x => optSg (stepF n G x W)))) (some (.own, .lst ((s :: l).map sgD)))).set 2 (some (.own, .lst (acc.map sgD ++ [sgD s]))) = soE n G W (acc ++ [s]) (some (.own, .lst (W.reverse.map fun x => optSg (stepF n G x W)))) (some (.own, .lst ((s :: l).map sgD))) := by
      unfold soE
      rw [List.map_append]
      rfl
    rw [e1]
    exact s_exprG (g_remI (xs := W.map nD) rfl (e_op0 (x := sgD s) (y := .int 1) (ix rfl) e_con (u_sgx s)) (u_rem hx nd))
theorem so_loop (g : Gr G) (hn : n ≤ 8) : ∀ (k f : Nat) (W : List Nat) (acc : List Sg) (o3 o4 : Option (Kd × D)), (∀ z ∈ W, z < n) → W.length ≤ 1000 → W.Nodup → acc.length + k ≤ 1000 → okS o3 → okS o4 → k < f → W.length ≤ k + 1 →
    match growL n G k W acc with
    | none => ∃ ρ', whlL soC soB f (soE n G W acc o3 o4) st = .ok (.rt .non, ρ') st
    | some q => ∃ o3' o4', okS o3' ∧ okS o4' ∧ whlL soC soB f (soE n G W acc o3 o4) st = .ok (.nx, soE n G q.1 q.2 o3' o4') st
  | 0, f, W, acc, o3, o4, hW, hl, nd, ha, h3, h4, hf, hk => by
    obtain ⟨f, rfl⟩ : ∃ f', f = f' + 1 := ⟨f - 1, by omega⟩
    refine ⟨o3, o4, h3, h4, u_whl_end ?_⟩
    rw [so_c, decide_eq_false (by omega)]
  | k + 1, f, W, acc, o3, o4, hW, hl, nd, ha, h3, h4, hf, hk => by
    obtain ⟨f, rfl⟩ : ∃ f', f = f' + 1 := ⟨f - 1, by omega⟩
    unfold growL
    by_cases h1 : W.length ≤ 1
    · rw [if_pos h1]
      refine ⟨o3, o4, h3, h4, u_whl_end ?_⟩
      rw [so_c, decide_eq_false (by omega)]
    · rw [if_neg h1]
      have hc : soC (er (soE n G W acc o3 o4)) st = .ok true st := by rw [so_c, decide_eq_true (by omega)]
      have hb := so_b (st := st) g hn hW hl nd (acc := acc) (by omega) h3 h4
      cases hp : pick n G W with
      | none =>
        rw [hp] at hb
        obtain ⟨ρ', hb⟩ := hb
        exact ⟨ρ', u_whl_rt hc hb⟩
      | some s =>
        rw [hp] at hb
        obtain ⟨o3', o4', q3, q4, hb⟩ := hb
        obtain ⟨hx, _⟩ := pick_mem hp
        have hlt : (W.filter (· ≠ s.x)).length < W.length := List.length_filter_lt_length_iff_exists.mpr ⟨s.x, hx, by simp⟩
        have ih := so_loop g hn k f (W.filter (· ≠ s.x)) (acc ++ [s]) o3' o4' (fun z hz => hW z (mem_wo.mp hz).1) (by omega) (List.Pairwise.filter _ nd) (by rw [List.length_append, List.length_singleton]; omega) q3 q4 (by omega) (by omega)
        rw [u_whl hc hb]
        exact ih
def soD : Option (List Nat × List Sg) → D
  | none => .non
  | some q => .lst ((Sg.alone (q.1.headD 0) :: q.2.reverse).map sgD)
theorem steps_of_eq (g : Gr G) (h1 : 1 ≤ n) (hn : n ≤ 8) : f_steps_of [hD n G] st = .ok (soD (growL n G n (List.range n) [])) st := by
  refine f_ret ?_
  unfold b_steps_of
  refine q_step (st1 := st) (ρ' := soE n G (List.range n) [] none none) (s_par (l := [(.own, .lst ((List.range n).map nD)), (.own, .lst [])]) (x_O (u_rg (e_op0 (x := hD n G) (y := .int 0) rfl e_con (x_ixT (i := 0) rfl)) (by omega)) (pures_ns _) (x_O (e_lim e_nil (by decide)) rfl x_nil)) ⟨rfl, rfl, rfl⟩) ?_
  have key := so_loop (st := st) g hn n 5000 (List.range n) [] none none (fun z hz => List.mem_range.mp hz) (by rw [List.length_range]; omega) List.nodup_range (by simp; omega) okS_none okS_none (by omega) (by rw [List.length_range]; omega)
  cases hq : growL n G n (List.range n) [] with
  | none =>
    rw [hq] at key
    obtain ⟨ρ', key⟩ := key
    show retD (sSeq (whlL soC soB 5000) _ _ st) = _
    rw [s_seqR key]
    rfl
  | some q =>
    rw [hq] at key
    obtain ⟨o3, o4, _, _, key⟩ := key
    obtain ⟨W', acc'⟩ := q
    obtain ⟨w, rfl, _⟩ := grow_one n hq List.nodup_range (by rw [List.length_range]; omega) (by rw [List.length_range]; omega)
    refine q_step (n := whlL soC soB 5000) key ?_
    have hlen : acc'.length ≤ n := by
      obtain ⟨ms, e, hm, _⟩ := grow_back g n _ _ _ _ hq fun z hz => List.mem_range.mp hz
      rw [e]; simpa using hm
    refine q_ret ?_
    refine e_op0 (x := .lst [sgD (.alone w)]) (y := .lst (acc'.map sgD).reverse) (e_lst (e_lim (e_cons0 (e_tup (xs := [.str "alone", nD w]) (e_cons0 e_con (e_cons0 (e_op0 (x := .lst ([w].map nD)) (y := .int 0) rfl e_con (x_ixL (i := 0) rfl)) e_nil)) (by show 2 ≤ 16777216; decide)) e_nil) (by show 1 ≤ 16777216; decide))) rfl ?_
    rw [x_addL (by rw [List.length_reverse, List.length_map]; show 1 + _ ≤ 16777216; omega), ← List.map_reverse]
    rfl
theorem u_notNl (q : Option (List Nat × List Sg)) : xNotA (soD q) .non = some (.bl q.isSome) := by cases q <;> rfl
theorem u_isNl (q : Option (List Nat × List Sg)) : xIsA (soD q) .non = some (.bl (!q.isSome)) := by cases q <;> rfl
theorem is_grown_eq (g : Gr G) (h1 : 1 ≤ n) (hn : n ≤ 8) : f_is_grown [hD n G] st = .ok (.bl (grB n G)) st := by
  refine f_ret ?_
  unfold b_is_grown
  refine q_expr0 (e_call0 (xs := [hD n G]) rfl rfl (need_hall_eq h1 hn)) ?_
  exact q_ret (e_op0 (e_call0 (xs := [hD n G]) rfl rfl (steps_of_eq g h1 hn)) e_con (u_notNl _))
end LW

namespace LW
/-! ### halls of five and six by codes -/
def gC (c a b : Nat) : Bool := if a < b then c.testBit (b * (b - 1) / 2 + a) else if b < a then c.testBit (a * (a - 1) / 2 + b) else false
theorem gC_gr (c : Nat) : Gr (gC c) where
  sym a b := by
    unfold gC
    by_cases h1 : a < b
    · rw [if_pos h1, if_neg (by omega), if_pos h1]
    · by_cases h2 : b < a
      · rw [if_neg h1, if_pos h2, if_pos h2]
      · rw [if_neg h1, if_neg h2, if_neg h2, if_neg h1]
  irr a := by unfold gC; rw [if_neg (Nat.lt_irrefl a), if_neg (Nat.lt_irrefl a)]
def T5 : Nat := 179752660564927509025281338078264467322716392758864996009678513459610557016478490771552792838827076280367717800885932120508222796319155748833761248785933225211956781590681182209933240873865618283530485639837861878585971058064056200254929606711961686086602573317791451594553465167587004216741574877594752385023
def upV (x a : Nat) : Nat := if a < x then a else a + 1
def bN1 (b : Bool) (k : Nat) : Nat := if b = true then k else 0
def cF (F : Nat → Nat → Bool) : Nat := bN1 (F 0 1) 1 + bN1 (F 0 2) 2 + bN1 (F 1 2) 4 + bN1 (F 0 3) 8 + bN1 (F 1 3) 16 + bN1 (F 2 3) 32 + bN1 (F 0 4) 64 + bN1 (F 1 4) 128 + bN1 (F 2 4) 256 + bN1 (F 3 4) 512
def nF (F : Nat → Nat → Bool) : Nat := bN1 (F 0 5) 1 + bN1 (F 1 5) 2 + bN1 (F 2 5) 4 + bN1 (F 3 5) 8 + bN1 (F 4 5) 16
def delF (x : Nat) (F : Nat → Nat → Bool) : Nat → Nat → Bool := fun a b => F (upV x a) (upV x b)
def prK : List (List (Nat × Nat)) := [[(1, 2), (3, 4), (6, 7), (10, 11)], [(0, 2), (3, 5), (6, 8), (10, 12)], [(0, 4), (1, 5), (6, 9), (10, 13)], [(0, 7), (1, 8), (3, 9), (10, 14)], [(0, 11), (1, 12), (3, 13), (6, 14)], [(2, 1), (4, 3), (7, 6), (11, 10)], [(0, 1), (4, 5), (7, 8), (11, 12)], [(0, 3), (2, 5), (7, 9), (11, 13)], [(0, 6), (2, 8), (4, 9), (11, 14)], [(0, 10), (2, 12), (4, 13), (7, 14)], [(2, 0), (5, 3), (8, 6), (12, 10)], [(1, 0), (5, 4), (8, 7), (12, 11)], [(1, 3), (2, 4), (8, 9), (12, 13)], [(1, 6), (2, 7), (5, 9), (12, 14)], [(1, 10), (2, 11), (5, 13), (8, 14)], [(4, 0), (5, 1), (9, 6), (13, 10)], [(3, 0), (5, 2), (9, 7), (13, 11)], [(3, 1), (4, 2), (9, 8), (13, 12)], [(3, 6), (4, 7), (5, 8), (13, 14)], [(3, 10), (4, 11), (5, 12), (9, 14)], [(7, 0), (8, 1), (9, 3), (14, 10)], [(6, 0), (8, 2), (9, 4), (14, 11)], [(6, 1), (7, 2), (9, 5), (14, 12)], [(6, 3), (7, 4), (8, 5), (14, 13)], [(6, 10), (7, 11), (8, 12), (9, 13)], [(11, 0), (12, 1), (13, 3), (14, 6)], [(10, 0), (12, 2), (13, 4), (14, 7)], [(10, 1), (11, 2), (13, 5), (14, 8)], [(10, 3), (11, 4), (12, 5), (14, 9)], [(10, 6), (11, 7), (12, 8), (13, 9)]]
def tb (c k : Nat) : Bool := Nat.beq (Nat.land (Nat.shiftRight c k) 1) 1
def eqb : Bool → Bool → Bool
  | true, b => b
  | false, true => false
  | false, false => true
def nob : Bool → Bool
  | true => false
  | false => true
def remK (c : Nat) : Bool := prK.any fun l => (l.all fun q => nob (tb c q.1)) || (l.all fun q => eqb (tb c q.1) (tb c q.2))
def allB : Nat → (Nat → Bool) → Bool
  | 0, _ => true
  | k + 1, f => f k && allB k f
theorem allB_iff {f : Nat → Bool} : ∀ {n : Nat}, allB n f = true → ∀ k, k < n → f k = true
  | 0, _, k, h => by omega
  | n + 1, h, k, hk => by
    unfold allB at h
    rw [Bool.and_eq_true] at h
    by_cases e : k = n
    · rw [e]; exact h.1
    · exact allB_iff h.2 k (by omega)
theorem tb_eq {c k : Nat} : tb c k = c.testBit k := by
  unfold tb
  rw [Nat.testBit_eq_decide_div_mod_eq]
  show Nat.beq ((c >>> k) &&& 1) 1 = _
  rw [Nat.shiftRight_eq_div_pow, Nat.and_one_is_mod, Bool.eq_iff_iff, decide_eq_true_iff]
  exact ⟨fun h => Nat.eq_of_beq_eq_true h, fun h => by rw [h]; rfl⟩
def rgR (G : Nat → Nat → Bool) : List Nat := (List.range 5).foldl (fun here _ => here.foldl (fun h x => h ++ (frL 5 G x).filter fun y => !decide (y ∈ h)) here) [0]
def rgB (G : Nat → Nat → Bool) : Bool := ((List.range 5).all fun x => decide ((frL 5 G x).length = 2)) && decide ((rgR G).length = 5)
def wds : List (List Nat) := [] :: ((List.range 5).map fun x => [x]) ++ ((List.range 5).flatMap fun x => (List.range 5).map fun y => [x, y])
def f5 (c : Nat) : Bool := eqb (grB 5 (gC c)) (tb T5 c) && (if tb T5 c = true then nob (rgB (gC c)) else wds.any fun w => rgB (gC (cF (turnsG w (gC c)))))
def f6 (c : Nat) : Bool := nob (tb T5 (c % 1024)) || remK c || ((List.range 5).any fun x => nob (tb T5 (cF (delF x (gC c))))) || nob (tb T5 (cF (delF 0 (turnG 0 (gC c)))))
theorem five : allB 1024 f5 = true := by decide +kernel
theorem six0 : allB 1024 (fun i => f6 (0 + i)) = true := by decide +kernel
theorem six1 : allB 1024 (fun i => f6 (1024 + i)) = true := by decide +kernel
theorem six2 : allB 1024 (fun i => f6 (2048 + i)) = true := by decide +kernel
theorem six3 : allB 1024 (fun i => f6 (3072 + i)) = true := by decide +kernel
theorem six4 : allB 1024 (fun i => f6 (4096 + i)) = true := by decide +kernel
theorem six5 : allB 1024 (fun i => f6 (5120 + i)) = true := by decide +kernel
theorem six6 : allB 1024 (fun i => f6 (6144 + i)) = true := by decide +kernel
theorem six7 : allB 1024 (fun i => f6 (7168 + i)) = true := by decide +kernel
theorem six8 : allB 1024 (fun i => f6 (8192 + i)) = true := by decide +kernel
theorem six9 : allB 1024 (fun i => f6 (9216 + i)) = true := by decide +kernel
theorem six10 : allB 1024 (fun i => f6 (10240 + i)) = true := by decide +kernel
theorem six11 : allB 1024 (fun i => f6 (11264 + i)) = true := by decide +kernel
theorem six12 : allB 1024 (fun i => f6 (12288 + i)) = true := by decide +kernel
theorem six13 : allB 1024 (fun i => f6 (13312 + i)) = true := by decide +kernel
theorem six14 : allB 1024 (fun i => f6 (14336 + i)) = true := by decide +kernel
theorem six15 : allB 1024 (fun i => f6 (15360 + i)) = true := by decide +kernel
theorem six16 : allB 1024 (fun i => f6 (16384 + i)) = true := by decide +kernel
theorem six17 : allB 1024 (fun i => f6 (17408 + i)) = true := by decide +kernel
theorem six18 : allB 1024 (fun i => f6 (18432 + i)) = true := by decide +kernel
theorem six19 : allB 1024 (fun i => f6 (19456 + i)) = true := by decide +kernel
theorem six20 : allB 1024 (fun i => f6 (20480 + i)) = true := by decide +kernel
theorem six21 : allB 1024 (fun i => f6 (21504 + i)) = true := by decide +kernel
theorem six22 : allB 1024 (fun i => f6 (22528 + i)) = true := by decide +kernel
theorem six23 : allB 1024 (fun i => f6 (23552 + i)) = true := by decide +kernel
theorem six24 : allB 1024 (fun i => f6 (24576 + i)) = true := by decide +kernel
theorem six25 : allB 1024 (fun i => f6 (25600 + i)) = true := by decide +kernel
theorem six26 : allB 1024 (fun i => f6 (26624 + i)) = true := by decide +kernel
theorem six27 : allB 1024 (fun i => f6 (27648 + i)) = true := by decide +kernel
theorem six28 : allB 1024 (fun i => f6 (28672 + i)) = true := by decide +kernel
theorem six29 : allB 1024 (fun i => f6 (29696 + i)) = true := by decide +kernel
theorem six30 : allB 1024 (fun i => f6 (30720 + i)) = true := by decide +kernel
theorem six31 : allB 1024 (fun i => f6 (31744 + i)) = true := by decide +kernel
theorem six_at : ∀ c, c < 32768 → f6 c = true := fun c h => by
  have hj : c / 1024 = 0 ∨ c / 1024 = 1 ∨ c / 1024 = 2 ∨ c / 1024 = 3 ∨ c / 1024 = 4 ∨ c / 1024 = 5 ∨ c / 1024 = 6 ∨ c / 1024 = 7 ∨ c / 1024 = 8 ∨ c / 1024 = 9 ∨ c / 1024 = 10 ∨ c / 1024 = 11 ∨ c / 1024 = 12 ∨ c / 1024 = 13 ∨ c / 1024 = 14 ∨ c / 1024 = 15 ∨ c / 1024 = 16 ∨ c / 1024 = 17 ∨ c / 1024 = 18 ∨ c / 1024 = 19 ∨ c / 1024 = 20 ∨ c / 1024 = 21 ∨ c / 1024 = 22 ∨ c / 1024 = 23 ∨ c / 1024 = 24 ∨ c / 1024 = 25 ∨ c / 1024 = 26 ∨ c / 1024 = 27 ∨ c / 1024 = 28 ∨ c / 1024 = 29 ∨ c / 1024 = 30 ∨ c / 1024 = 31 := by omega
  have hm := Nat.div_add_mod c 1024
  have hl := Nat.mod_lt c (show 0 < 1024 by decide)
  rcases hj with e | e | e | e | e | e | e | e | e | e | e | e | e | e | e | e | e | e | e | e | e | e | e | e | e | e | e | e | e | e | e | e
  · rw [← show 0 + c % 1024 = c by omega]; exact allB_iff six0 (c % 1024) hl
  · rw [← show 1024 + c % 1024 = c by omega]; exact allB_iff six1 (c % 1024) hl
  · rw [← show 2048 + c % 1024 = c by omega]; exact allB_iff six2 (c % 1024) hl
  · rw [← show 3072 + c % 1024 = c by omega]; exact allB_iff six3 (c % 1024) hl
  · rw [← show 4096 + c % 1024 = c by omega]; exact allB_iff six4 (c % 1024) hl
  · rw [← show 5120 + c % 1024 = c by omega]; exact allB_iff six5 (c % 1024) hl
  · rw [← show 6144 + c % 1024 = c by omega]; exact allB_iff six6 (c % 1024) hl
  · rw [← show 7168 + c % 1024 = c by omega]; exact allB_iff six7 (c % 1024) hl
  · rw [← show 8192 + c % 1024 = c by omega]; exact allB_iff six8 (c % 1024) hl
  · rw [← show 9216 + c % 1024 = c by omega]; exact allB_iff six9 (c % 1024) hl
  · rw [← show 10240 + c % 1024 = c by omega]; exact allB_iff six10 (c % 1024) hl
  · rw [← show 11264 + c % 1024 = c by omega]; exact allB_iff six11 (c % 1024) hl
  · rw [← show 12288 + c % 1024 = c by omega]; exact allB_iff six12 (c % 1024) hl
  · rw [← show 13312 + c % 1024 = c by omega]; exact allB_iff six13 (c % 1024) hl
  · rw [← show 14336 + c % 1024 = c by omega]; exact allB_iff six14 (c % 1024) hl
  · rw [← show 15360 + c % 1024 = c by omega]; exact allB_iff six15 (c % 1024) hl
  · rw [← show 16384 + c % 1024 = c by omega]; exact allB_iff six16 (c % 1024) hl
  · rw [← show 17408 + c % 1024 = c by omega]; exact allB_iff six17 (c % 1024) hl
  · rw [← show 18432 + c % 1024 = c by omega]; exact allB_iff six18 (c % 1024) hl
  · rw [← show 19456 + c % 1024 = c by omega]; exact allB_iff six19 (c % 1024) hl
  · rw [← show 20480 + c % 1024 = c by omega]; exact allB_iff six20 (c % 1024) hl
  · rw [← show 21504 + c % 1024 = c by omega]; exact allB_iff six21 (c % 1024) hl
  · rw [← show 22528 + c % 1024 = c by omega]; exact allB_iff six22 (c % 1024) hl
  · rw [← show 23552 + c % 1024 = c by omega]; exact allB_iff six23 (c % 1024) hl
  · rw [← show 24576 + c % 1024 = c by omega]; exact allB_iff six24 (c % 1024) hl
  · rw [← show 25600 + c % 1024 = c by omega]; exact allB_iff six25 (c % 1024) hl
  · rw [← show 26624 + c % 1024 = c by omega]; exact allB_iff six26 (c % 1024) hl
  · rw [← show 27648 + c % 1024 = c by omega]; exact allB_iff six27 (c % 1024) hl
  · rw [← show 28672 + c % 1024 = c by omega]; exact allB_iff six28 (c % 1024) hl
  · rw [← show 29696 + c % 1024 = c by omega]; exact allB_iff six29 (c % 1024) hl
  · rw [← show 30720 + c % 1024 = c by omega]; exact allB_iff six30 (c % 1024) hl
  · rw [← show 31744 + c % 1024 = c by omega]; exact allB_iff six31 (c % 1024) hl
end LW

namespace LW
variable {x y : Nat} {G F : Nat → Nat → Bool}
def c10 (b0 b1 b2 b3 b4 b5 b6 b7 b8 b9 : Bool) : Nat := bN1 b0 1 + bN1 b1 2 + bN1 b2 4 + bN1 b3 8 + bN1 b4 16 + bN1 b5 32 + bN1 b6 64 + bN1 b7 128 + bN1 b8 256 + bN1 b9 512
theorem c10_ok : ∀ b0 b1 b2 b3 b4 b5 b6 b7 b8 b9 : Bool, c10 b0 b1 b2 b3 b4 b5 b6 b7 b8 b9 < 1024 ∧ ((c10 b0 b1 b2 b3 b4 b5 b6 b7 b8 b9).testBit 0 = b0 ∧ (c10 b0 b1 b2 b3 b4 b5 b6 b7 b8 b9).testBit 1 = b1 ∧ (c10 b0 b1 b2 b3 b4 b5 b6 b7 b8 b9).testBit 2 = b2 ∧ (c10 b0 b1 b2 b3 b4 b5 b6 b7 b8 b9).testBit 3 = b3 ∧ (c10 b0 b1 b2 b3 b4 b5 b6 b7 b8 b9).testBit 4 = b4) ∧ (c10 b0 b1 b2 b3 b4 b5 b6 b7 b8 b9).testBit 5 = b5 ∧ (c10 b0 b1 b2 b3 b4 b5 b6 b7 b8 b9).testBit 6 = b6 ∧ (c10 b0 b1 b2 b3 b4 b5 b6 b7 b8 b9).testBit 7 = b7 ∧ (c10 b0 b1 b2 b3 b4 b5 b6 b7 b8 b9).testBit 8 = b8 ∧ (c10 b0 b1 b2 b3 b4 b5 b6 b7 b8 b9).testBit 9 = b9 := by decide +kernel
def c5 (b0 b1 b2 b3 b4 : Bool) : Nat := bN1 b0 1 + bN1 b1 2 + bN1 b2 4 + bN1 b3 8 + bN1 b4 16
theorem c5_ok : ∀ b0 b1 b2 b3 b4 : Bool, c5 b0 b1 b2 b3 b4 < 32 ∧ (c5 b0 b1 b2 b3 b4).testBit 0 = b0 ∧ (c5 b0 b1 b2 b3 b4).testBit 1 = b1 ∧ (c5 b0 b1 b2 b3 b4).testBit 2 = b2 ∧ (c5 b0 b1 b2 b3 b4).testBit 3 = b3 ∧ (c5 b0 b1 b2 b3 b4).testBit 4 = b4 := by decide +kernel
theorem cF_lt : cF F < 1024 := (c10_ok (F 0 1) (F 0 2) (F 1 2) (F 0 3) (F 1 3) (F 2 3) (F 0 4) (F 1 4) (F 2 4) (F 3 4)).1
theorem nF_lt : nF F < 32 := (c5_ok (F 0 5) (F 1 5) (F 2 5) (F 3 5) (F 4 5)).1
theorem cF_up {a b : Nat} (h : a < b) (hb : b < 5) : (cF F).testBit (b * (b - 1) / 2 + a) = F a b := by
  obtain ⟨_, ⟨h0, h1, h2, h3, h4⟩, h5, h6, h7, h8, h9⟩ := c10_ok (F 0 1) (F 0 2) (F 1 2) (F 0 3) (F 1 3) (F 2 3) (F 0 4) (F 1 4) (F 2 4) (F 3 4)
  have : (a = 0 ∧ b = 1) ∨ (a = 0 ∧ b = 2) ∨ (a = 1 ∧ b = 2) ∨ (a = 0 ∧ b = 3) ∨ (a = 1 ∧ b = 3) ∨ (a = 2 ∧ b = 3) ∨ (a = 0 ∧ b = 4) ∨ (a = 1 ∧ b = 4) ∨ (a = 2 ∧ b = 4) ∨ (a = 3 ∧ b = 4) := by omega
  rcases this with ⟨rfl, rfl⟩ | ⟨rfl, rfl⟩ | ⟨rfl, rfl⟩ | ⟨rfl, rfl⟩ | ⟨rfl, rfl⟩ | ⟨rfl, rfl⟩ | ⟨rfl, rfl⟩ | ⟨rfl, rfl⟩ | ⟨rfl, rfl⟩ | ⟨rfl, rfl⟩
  · exact h0
  · exact h1
  · exact h2
  · exact h3
  · exact h4
  · exact h5
  · exact h6
  · exact h7
  · exact h8
  · exact h9
theorem nF_up {a : Nat} (h : a < 5) : (nF F).testBit a = F a 5 := by
  obtain ⟨_, h0, h1, h2, h3, h4⟩ := c5_ok (F 0 5) (F 1 5) (F 2 5) (F 3 5) (F 4 5)
  have : a = 0 ∨ a = 1 ∨ a = 2 ∨ a = 3 ∨ a = 4 := by omega
  rcases this with rfl | rfl | rfl | rfl | rfl
  · exact h0
  · exact h1
  · exact h2
  · exact h3
  · exact h4
theorem gr_ext {n : Nat} {F' : Nat → Nat → Bool} (g : Gr F) (g' : Gr F') (h : ∀ a b, a < b → b < n → F a b = F' a b) {a b : Nat} (ha : a < n) (hb : b < n) : F a b = F' a b := by
  rcases Nat.lt_trichotomy a b with c | c | c
  · exact h a b c hb
  · rw [c, g.irr, g'.irr]
  · rw [g.sym, g'.sym]
    exact h b a c ha
theorem gC_cF (g : Gr F) {a b : Nat} (ha : a < 5) (hb : b < 5) : gC (cF F) a b = F a b :=
  gr_ext (gC_gr _) g (fun a b h hb => by unfold gC; rw [if_pos h]; exact cF_up h hb) ha hb
def c6 (F : Nat → Nat → Bool) : Nat := cF F + 1024 * nF F
theorem c6_mod : c6 F % 1024 = cF F := by have := cF_lt (F := F); unfold c6; omega
theorem c6_lt : c6 F < 32768 := by have := cF_lt (F := F); have := nF_lt (F := F); unfold c6; omega
theorem c6_lo {k : Nat} (h : k < 10) : (c6 F).testBit k = (cF F).testBit k := by
  rw [← c6_mod (F := F), show (1024 : Nat) = 2 ^ 10 from rfl, Nat.testBit_mod_two_pow, decide_eq_true h, Bool.true_and]
theorem c6_hi {k : Nat} : (c6 F).testBit (10 + k) = (nF F).testBit k := by
  rw [← Nat.testBit_shiftRight, Nat.shiftRight_eq_div_pow]
  congr 1
  have := cF_lt (F := F)
  show (cF F + 1024 * nF F) / 1024 = nF F
  omega
theorem gC_c6 (g : Gr F) {a b : Nat} (ha : a < 6) (hb : b < 6) : gC (c6 F) a b = F a b :=
  gr_ext (gC_gr _) g (fun a b h hb => by
    unfold gC
    rw [if_pos h]
    by_cases c : b = 5
    · subst c
      show (c6 F).testBit (10 + a) = _
      rw [c6_hi, nF_up (by omega)]
    · have hb5 : b < 5 := by omega
      have : b * (b - 1) / 2 + a < 10 := by
        have : b = 0 ∨ b = 1 ∨ b = 2 ∨ b = 3 ∨ b = 4 := by omega
        rcases this with rfl | rfl | rfl | rfl | rfl <;> omega
      rw [c6_lo this, cF_up h hb5]) ha hb
theorem grB_congr {n : Nat} {F' : Nat → Nat → Bool} (g : Gr F) (g' : Gr F') (h : ∀ a b, a < n → b < n → F a b = F' a b) : grB n F = grB n F' := by
  rw [Bool.eq_iff_iff, grB_iff g, grB_iff g']
  exact ⟨fun r => red_id g r List.nodup_range (fun _ h => h) fun a ha b hb => (h a b (List.mem_range.mp ha) (List.mem_range.mp hb)).symm, fun r => red_id g' r List.nodup_range (fun _ h => h) fun a ha b hb => h a b (List.mem_range.mp ha) (List.mem_range.mp hb)⟩
theorem eqb_eq {a b : Bool} (h : eqb a b = true) : a = b := by cases a <;> cases b <;> first | rfl | exact absurd h (by decide)
theorem f5_at (c : Nat) (h : c < 1024) : grB 5 (gC c) = tb T5 c ∧ (tb T5 c = true → rgB (gC c) = false) ∧ (tb T5 c = false → ∃ w ∈ wds, rgB (gC (cF (turnsG w (gC c)))) = true) := by
  have := allB_iff five c h
  unfold f5 at this
  rw [Bool.and_eq_true] at this
  refine ⟨eqb_eq this.1, fun e => ?_, fun e => ?_⟩
  · have h2 := this.2
    rw [if_pos e] at h2
    cases hr : rgB (gC c) with
    | false => rfl
    | true => rw [hr] at h2; cases h2
  · have h2 := this.2
    rw [if_neg (by rw [e]; decide)] at h2
    exact List.any_eq_true.mp h2
theorem t5_eq (g : Gr F) : tb T5 (cF F) = grB 5 F := by
  rw [← (f5_at (cF F) cF_lt).1]
  exact grB_congr (gC_gr _) g fun a b ha hb => gC_cF g ha hb
theorem turns_congr {n : Nat} : ∀ (l : List Nat) {F F' : Nat → Nat → Bool}, (∀ x ∈ l, x < n) → (∀ a b, a < n → b < n → F a b = F' a b) → ∀ a b, a < n → b < n → turnsG l F a b = turnsG l F' a b
  | [], _, _, _, h => h
  | x :: l, F, F', hl, h => turns_congr l (F := turnG x F) (F' := turnG x F') (fun y hy => hl y (List.mem_cons_of_mem _ hy)) fun a b ha hb => by
    unfold turnG
    rw [h a b ha hb, h x a (hl x List.mem_cons_self) ha, h x b (hl x List.mem_cons_self) hb]
theorem cF_congr {F F' : Nat → Nat → Bool} (h : ∀ a b, a < 5 → b < 5 → F a b = F' a b) : cF F = cF F' := by
  unfold cF
  rw [h 0 1 (by decide) (by decide), h 0 2 (by decide) (by decide), h 1 2 (by decide) (by decide), h 0 3 (by decide) (by decide), h 1 3 (by decide) (by decide), h 2 3 (by decide) (by decide), h 0 4 (by decide) (by decide), h 1 4 (by decide) (by decide), h 2 4 (by decide) (by decide), h 3 4 (by decide) (by decide)]
theorem wds_lt : ∀ w ∈ wds, ∀ x ∈ w, x < 5 := by decide +kernel
/-- five: a ring is behind some turns exactly if the hall is not grown -/
theorem ring5 (g : Gr G) : (∃ l : List Nat, (∀ x ∈ l, x < 5) ∧ rgB (gC (cF (turnsG l G))) = true) ↔ grB 5 G = false := by
  constructor
  · rintro ⟨l, hl, hr⟩
    cases hg : grB 5 G with
    | false => rfl
    | true =>
      have h2 := (f5_at (cF (turnsG l G)) cF_lt).2.1 (by rw [t5_eq (g.turns l), grB_turns g hl, hg])
      rw [hr] at h2
      cases h2
  · intro h
    obtain ⟨w, hw, hr⟩ := (f5_at (cF G) cF_lt).2.2 (by rw [t5_eq g, h])
    refine ⟨w, wds_lt w hw, ?_⟩
    rw [← cF_congr (turns_congr w (wds_lt w hw) fun a b ha hb => gC_cF g ha hb)]
    exact hr
/-! ### six -/
theorem del_gr (g : Gr G) : Gr (delF x G) := ⟨fun a b => g.sym _ _, fun a => g.irr _⟩
theorem up_mem {a : Nat} (h : a < 5) : upV x a < 6 := by unfold upV; split <;> omega
theorem up_ne {a : Nat} : upV x a ≠ x := by unfold upV; split <;> omega
theorem up_inj {a b : Nat} (h : upV x a = upV x b) : a = b := by unfold upV at h; split at h <;> split at h <;> omega
theorem del_her (g : Gr G) (h : Red G (List.range 6)) : grB 5 (delF x G) = true := by
  rw [grB_iff (del_gr g)]
  exact red_emb g h (f := upV x) List.nodup_range (fun w hw => List.mem_range.mpr (up_mem (List.mem_range.mp hw))) (fun w _ w' _ e => up_inj e) fun w _ w' _ => rfl
theorem del_back (g : Gr G) (hx : x < 6) (h : grB 5 (delF x G) = true) : Red G ((List.range 6).filter (· ≠ x)) := by
  rw [grB_iff (del_gr g)] at h
  have e : ∀ w, w ≠ x → upV x (if w < x then w else w - 1) = w := fun w hw => by
    unfold upV
    by_cases h : w < x
    · rw [if_pos h, if_pos h]
    · rw [if_neg h, if_neg (by omega)]
      omega
  refine red_emb (del_gr g) h (f := fun w => if w < x then w else w - 1) (List.nodup_range.filter _) (fun w hw => ?_) (fun w hw w' hw' he => ?_) fun w hw w' hw' => ?_
  · obtain ⟨h1, h2⟩ := mem_wo.mp hw
    have := List.mem_range.mp h1
    refine List.mem_range.mpr ?_
    show (if w < x then w else w - 1) < 5
    split <;> omega
  · rw [← e w (mem_wo.mp hw).2, ← e w' (mem_wo.mp hw').2]
    exact congrArg _ he
  · show _ = G (upV x _) (upV x _)
    rw [e w (mem_wo.mp hw).2, e w' (mem_wo.mp hw').2]
def ix2 (a b : Nat) : Nat := if a < b then b * (b - 1) / 2 + a else a * (a - 1) / 2 + b
def xu : List (Nat × Nat) := (List.range 6).flatMap fun x => ((List.range 6).filter fun u => !decide (u = x)).map fun u => (x, u)
theorem prK_eq : prK = xu.map fun q => ((List.range 6).filter fun y => !decide (y = q.1) && !decide (y = q.2)).map fun y => (ix2 q.1 y, ix2 q.2 y) := by decide +kernel
theorem tb_gC {c a b : Nat} (h : a ≠ b) : tb c (ix2 a b) = gC c a b := by
  rw [tb_eq]
  unfold ix2 gC
  by_cases h1 : a < b
  · rw [if_pos h1, if_pos h1]
  · rw [if_neg h1, if_neg h1, if_pos (by omega)]
theorem rem_at {c : Nat} (h : remK c = true) : ∃ x, x < 6 ∧ RemP (gC c) x (List.range 6) := by
  unfold remK at h
  rw [prK_eq, List.any_map, List.any_eq_true] at h
  obtain ⟨⟨x, u⟩, hq, h⟩ := h
  obtain ⟨x', hx', hu⟩ := List.mem_flatMap.mp hq
  obtain ⟨u', hu', e⟩ := List.mem_map.mp hu
  cases e
  have hx := List.mem_range.mp hx'
  obtain ⟨hu1, hu2⟩ := List.mem_filter.mp hu'
  have hne : u ≠ x := by simpa using hu2
  refine ⟨x, hx, .inr ⟨u, hu1, hne, ?_⟩⟩
  simp only [Function.comp, Bool.or_eq_true, List.all_map, List.all_eq_true, List.mem_filter, Bool.and_eq_true] at h
  rcases h with h | h
  · left
    intro y hy hyu
    by_cases hyx : y = x
    · rw [hyx]; exact (gC_gr c).irr x
    · have := h y ⟨hy, by simp [hyx], by simp [hyu]⟩
      rw [tb_gC (fun e => hyx e.symm)] at this
      cases hb : gC c x y with
      | false => rfl
      | true => rw [hb] at this; cases this
  · right
    intro y hy hyx hyu
    have := eqb_eq (h y ⟨hy, by simp [hyx], by simp [hyu]⟩)
    rwa [tb_gC (fun e => hyx e.symm), tb_gC (fun e => hyu e.symm)] at this
theorem six_back (g : Gr G) (hZ : ∀ x, x < 6 → grB 5 (delF x G) = true) (hY : grB 5 (delF 0 (turnG 0 G)) = true) : grB 6 G = true := by
  have h6 := six_at (c6 G) c6_lt
  have tz : ∀ x, x < 6 → cF (delF x (gC (c6 G))) = cF (delF x G) := fun x hx => cF_congr fun a b ha hb => gC_c6 g (up_mem ha) (up_mem hb)
  unfold f6 at h6
  rw [Bool.or_eq_true, Bool.or_eq_true, Bool.or_eq_true] at h6
  rcases h6 with ((h | h) | h) | h
  · rw [c6_mod, show cF G = cF (delF 5 G) from cF_congr fun a b ha hb => by unfold delF upV; rw [if_pos ha, if_pos hb], t5_eq (del_gr g), hZ 5 (by decide)] at h
    cases h
  · obtain ⟨x, hx, hr⟩ := rem_at h
    have hr' : RemP G x (List.range 6) := by
      rcases hr with h | ⟨u, hu, hux, h⟩
      · exact .inl fun y hy => by rw [← gC_c6 g hx (List.mem_range.mp hy)]; exact h y hy
      · refine .inr ⟨u, hu, hux, ?_⟩
        rcases h with h | h
        · exact .inl fun y hy hyu => by rw [← gC_c6 g hx (List.mem_range.mp hy)]; exact h y hy hyu
        · exact .inr fun y hy h1 h2 => by rw [← gC_c6 g hx (List.mem_range.mp hy), ← gC_c6 g (List.mem_range.mp hu) (List.mem_range.mp hy)]; exact h y hy h1 h2
    rw [grB_iff g]
    exact (red_wo g List.nodup_range (List.mem_range.mpr hx) hr').mp (del_back g hx (hZ x hx))
  · obtain ⟨x, hx, h⟩ := List.any_eq_true.mp h
    have hx := List.mem_range.mp hx
    rw [tz x (by omega), t5_eq (del_gr g), hZ x (by omega)] at h
    cases h
  · rw [show cF (delF 0 (turnG 0 (gC (c6 G)))) = cF (delF 0 (turnG 0 G)) from cF_congr fun a b ha hb => by
      show turnG 0 (gC (c6 G)) (upV 0 a) (upV 0 b) = turnG 0 G (upV 0 a) (upV 0 b)
      unfold turnG
      rw [gC_c6 g (up_mem ha) (up_mem hb), gC_c6 g (by decide) (up_mem ha), gC_c6 g (by decide) (up_mem hb)], t5_eq (del_gr (g.turn 0)), hY] at h
    cases h
end LW

namespace LW
variable {n x y : Nat} {G F : Nat → Nat → Bool} {st : DS}
/-! ### leaving -/
def dnV (x y : Nat) : Nat := if x < y then y - 1 else y
def shP (x : Nat) (p : Nat × Nat) : Nat × Nat := (dnV x p.1, dnV x p.2)
def nox (x : Nat) (p : Nat × Nat) : Bool := true ^^ decide (x ∈ [p.1, p.2])
theorem wo_pairs : ∀ x, x < 6 → ((pairsN 6).filter (nox x)).map (shP x) = pairsN 5 := by decide +kernel
theorem up_dn {y : Nat} (h : y ≠ x) : upV x (dnV x y) = y := by
  unfold upV dnV
  by_cases c : x < y
  · rw [if_pos c, if_neg (by omega)]
    omega
  · rw [if_neg c, if_pos (by omega)]
theorem nox_ne {p : Nat × Nat} (h : nox x p = true) : p.1 ≠ x ∧ p.2 ≠ x := by
  unfold nox at h
  simp only [List.mem_cons, List.not_mem_nil, or_false, Bool.true_xor, Bool.not_eq_true', decide_eq_false_iff_not, not_or] at h
  exact ⟨fun e => h.1 e.symm, fun e => h.2 e.symm⟩
theorem wo_prs (hx : x < 6) : ((prs 6 G).filter (nox x)).map (shP x) = prs 5 (delF x G) := by
  have e : prs 5 (delF x G) = (((pairsN 6).filter (nox x)).map (shP x)).filter fun p => delF x G p.1 p.2 := by rw [wo_pairs x hx]; rfl
  rw [e, List.filter_map]
  congr 1
  unfold prs
  rw [List.filter_filter, List.filter_filter]
  refine List.filter_congr fun p _ => ?_
  cases hn : nox x p with
  | false => simp
  | true =>
    obtain ⟨h1, h2⟩ := nox_ne hn
    show (true && G p.1 p.2) = (G (upV x (dnV x p.1)) (upV x (dnV x p.2)) && true)
    rw [up_dn h1, up_dn h2, Bool.true_and, Bool.and_true]
theorem len36 {n : Nat} (hn : n ≤ 100) : (prs n G).length ≤ 10000 := Nat.le_trans (List.length_filter_le _ _) (len_pairsN hn)
theorem dn_ev {ρ : EE} {y : Nat} (h4 : cVar 4 ρ st = .ok (nD y) st) (h1 : cVar 1 ρ st = .ok (nD x) st) : cIf (cTest (cOp xGtA (cVar 4) (cVar 1))) (cOp xSub (cVar 4) (cCon (.int 1))) (cVar 4) ρ st = .ok (nD (dnV x y)) st := by
  refine e_if (k := decide (x < y)) (st1 := st) (t_test (e_op0 (x := nD y) (y := nD x) h4 h1 ?_)) ?_
  · show xGtA (.int (y : Int)) (.int (x : Int)) = _
    rw [x_gtI]
    congr 2
    exact decide_eq_decide.mpr (by omega)
  · unfold dnV
    by_cases c : x < y
    · rw [decide_eq_true c, if_pos rfl, if_pos c]
      refine e_op0 (x := nD y) (y := .int 1) h4 e_con ?_
      show xSub (.int (y : Int)) (.int 1) = some (.int ((y - 1 : Nat) : Int))
      rw [x_sub]
      congr 2
      omega
    · rw [decide_eq_false c, if_neg Bool.false_ne_true, if_neg c]
      exact h4
theorem without_eq (hx : x < 6) : f_without [hD 6 G, nD x] st = .ok (hD 5 (delF x G)) st := by
  have l6 := len36 (G := G) (n := 6) (by decide)
  have lf : ((prs 6 G).filter (nox x)).length ≤ 10000 := Nat.le_trans (List.length_filter_le _ _) l6
  refine f_ret ?_
  unfold b_without
  refine q_step (st1 := st) (ρ' := [some (.sh, hD 6 G), some (.sh, nD x), some (.sh, .lst (((prs 6 G).filter (nox x)).map pD)), none, none]) (s_setS (d := .lst (((prs 6 G).filter (nox x)).map pD)) (e_lst (w_compF (f := pD) (g := pD) (p := nox x) (xs := prs 6 G) (w_seqT (e_op0 (x := hD 6 G) (y := .int 1) rfl e_con (x_ixT (i := 1) rfl))) (by omega) fun p _ => ⟨_, rfl, t_test (e_op0 (x := nD x) (y := .tup ([p.1, p.2].map nD)) rfl rfl u_inT), fun _ => rfl⟩)) rfl) ?_
  refine q_ret (e_tup (xs := [nD 5, .tup ((prs 5 (delF x G)).map pD)]) (e_cons0 (e_op0 (x := nD 6) (y := .int 1) (e_op0 (x := hD 6 G) (y := .int 0) rfl e_con (x_ixT (i := 0) rfl)) e_con rfl) (e_cons0 (e_blt0 (xs := [.lst ((prs 5 (delF x G)).map pD)]) (e_cons0 (e_lst ?_) e_nil) x_tupL) e_nil)) (by show 2 ≤ 16777216; decide))
  rw [← wo_prs hx, List.map_map]
  refine w_compA (f := pD) (g := fun p => pD (shP x p)) (xs := (prs 6 G).filter (nox x)) (w_seqL rfl) (by omega) fun p _ => ⟨_, rfl, ?_⟩
  refine e_blt0 (xs := [.lst ([p.1, p.2].map fun y => nD (dnV x y))]) (e_cons0 (e_lst ?_) e_nil) x_tupL
  exact w_compA (f := nD) (g := fun y => nD (dnV x y)) (xs := [p.1, p.2]) (w_seqT rfl) (by show 2 ≤ 1000000; decide) fun y _ => ⟨_, rfl, dn_ev rfl rfl⟩
def isB (b : Bool) : Option D → Bool
  | some (.bl c) => c == b
  | _ => false
theorem kB {b : Bool} {o : Option D} (h : isB b o = true) : o = some (.bl b) := by
  unfold isB at h
  split at h
  · rename_i c
    rw [beq_iff_eq.mp h]
  · cases h
theorem eYY : xEq (.str "Y") (.str "Y") = some (.bl true) := kB (by decide +kernel)
theorem eXY : xEq (.str "X") (.str "Y") = some (.bl false) := kB (by decide +kernel)
theorem eZY : xEq (.str "Z") (.str "Y") = some (.bl false) := kB (by decide +kernel)
theorem eXX : xEq (.str "X") (.str "X") = some (.bl true) := kB (by decide +kernel)
theorem eZX : xEq (.str "Z") (.str "X") = some (.bl false) := kB (by decide +kernel)
theorem iX : xInA true (.str "X") (.str "XYZ") = some (.bl false) := kB (by decide +kernel)
theorem iY : xInA true (.str "Y") (.str "XYZ") = some (.bl false) := kB (by decide +kernel)
theorem iZ : xInA true (.str "Z") (.str "XYZ") = some (.bl false) := kB (by decide +kernel)
def lvX (x : Nat) (G : Nat → Nat → Bool) : Nat → Nat → Bool := delF x (if frL 6 G x = [] then G else turnsG [x, (frL 6 G x).headD 0, x] G)
theorem beh_Y (g : Gr G) (hx : x < 6) : f_behind_leaving [hD 6 G, nD x, .str "Y"] st = .ok (hD 5 (delF x (turnG x G))) st := by
  refine f_ret ?_
  unfold b_behind_leaving
  refine q_step (st1 := st) (ρ' := [some (.sh, hD 6 G), some (.sh, nD x), some (.sh, .str "Y"), some (.sh, .lst ((frL 6 G x).map nD))]) (s_setS (e_call0 (xs := [hD 6 G, nD x]) rfl rfl (friends_of_eq g (by decide) hx)) rfl) ?_
  refine q_ifS0 (k := true) (t_test (e_op0 (x := .str "Y") (y := .str "Y") rfl e_con eYY)) (.inl ⟨rfl, ?_⟩)
  refine q_step (st1 := st) (ρ' := [some (.sh, hD 6 (turnG x G)), some (.sh, nD x), some (.sh, .str "Y"), some (.sh, .lst ((frL 6 G x).map nD))]) (s_setS (e_call0 (xs := [hD 6 G, nD x]) rfl rfl (behind_turn_eq g (by decide) hx)) rfl) ?_
  exact q_ret (e_call0 (xs := [hD 6 (turnG x G), nD x]) rfl rfl (without_eq hx))
theorem beh_Z (g : Gr G) (hx : x < 6) : f_behind_leaving [hD 6 G, nD x, .str "Z"] st = .ok (hD 5 (delF x G)) st := by
  refine f_ret ?_
  unfold b_behind_leaving
  refine q_step (st1 := st) (ρ' := [some (.sh, hD 6 G), some (.sh, nD x), some (.sh, .str "Z"), some (.sh, .lst ((frL 6 G x).map nD))]) (s_setS (e_call0 (xs := [hD 6 G, nD x]) rfl rfl (friends_of_eq g (by decide) hx)) rfl) ?_
  refine q_ifS0 (k := false) (t_test (e_op0 (x := .str "Z") (y := .str "Y") rfl e_con eZY)) (.inr ⟨rfl, ?_⟩)
  refine q_ifS0 (k := false) (t_andF (st1 := st) (t_test (e_op0 (x := .str "Z") (y := .str "X") rfl e_con eZX))) (.inr ⟨rfl, q_nop ?_⟩)
  exact q_ret (e_call0 (xs := [hD 6 G, nD x]) rfl rfl (without_eq hx))
theorem beh_X (g : Gr G) (hx : x < 6) : f_behind_leaving [hD 6 G, nD x, .str "X"] st = .ok (hD 5 (lvX x G)) st := by
  refine f_ret ?_
  unfold b_behind_leaving
  refine q_step (st1 := st) (ρ' := [some (.sh, hD 6 G), some (.sh, nD x), some (.sh, .str "X"), some (.sh, .lst ((frL 6 G x).map nD))]) (s_setS (e_call0 (xs := [hD 6 G, nD x]) rfl rfl (friends_of_eq g (by decide) hx)) rfl) ?_
  refine q_ifS0 (k := false) (t_test (e_op0 (x := .str "X") (y := .str "Y") rfl e_con eXY)) (.inr ⟨rfl, ?_⟩)
  have c2 : cTest (cOp xNe (cVar 3) (cLst (cLim (aNil)))) (er [some (.sh, hD 6 G), some (.sh, nD x), some (.sh, .str "X"), some (.sh, .lst ((frL 6 G x).map nD))]) st = .ok (!(frL 6 G x).isEmpty) st :=
    t_test (e_op0 (x := .lst ((frL 6 G x).map nD)) (y := .lst []) rfl (e_lst (e_lim e_nil (by decide))) (by rw [u_nnil (nb_ns _) (by decide)]; cases frL 6 G x <;> rfl))
  unfold lvX
  cases hf : frL 6 G x with
  | nil =>
    rw [hf] at c2
    rw [if_pos rfl]
    refine q_ifS0 (k := false) (t_andT (st1 := st) (t_test (e_op0 (x := .str "X") (y := .str "X") rfl e_con eXX)) c2) (.inr ⟨rfl, q_nop ?_⟩)
    exact q_ret (e_call0 (xs := [hD 6 G, nD x]) rfl rfl (without_eq hx))
  | cons y r =>
    rw [hf] at c2
    rw [if_neg (by simp)]
    have hy : y < 6 := (mem_frL.mp (by rw [hf]; exact List.mem_cons_self)).1
    refine q_ifS0 (k := true) (t_andT (st1 := st) (t_test (e_op0 (x := .str "X") (y := .str "X") rfl e_con eXX)) c2) (.inl ⟨rfl, ?_⟩)
    refine q_step (st1 := st) (ρ' := [some (.sh, hD 6 (turnsG [x, y, x] G)), some (.sh, nD x), some (.sh, .str "X"), some (.sh, .lst ((y :: r).map nD))]) (s_setS (e_call0 (xs := [hD 6 G, .tup ([x, y, x].map nD)]) (e_cons0 rfl (e_cons0 (e_tup (xs := [x, y, x].map nD) (e_cons0 rfl (e_cons0 (e_op0 (x := .lst ((y :: r).map nD)) (y := .int 0) rfl e_con (x_ixL (i := 0) rfl)) (e_cons0 rfl e_nil))) (by show 3 ≤ 16777216; decide)) e_nil)) rfl (behind_turns_eq g (by decide) (by
      intro z hz
      simp only [List.mem_cons, List.not_mem_nil, or_false] at hz
      omega))) rfl) ?_
    exact q_ret (e_call0 (xs := [hD 6 (turnsG [x, y, x] G), nD x]) rfl rfl (without_eq hx))
theorem left_of {L : Str} {r : D} (g : Gr G) (hx : x < 6) (h1 : xLen [.str L] = some (nD 1)) (h2 : xInA true (.str L) (.str "XYZ") = some (.bl false)) (hb : f_behind_leaving [hD 6 G, nD x, .str L] st = .ok r st) : f_left [hD 6 G, nD x, .str L] st = .ok r st := by
  refine f_ret ?_
  unfold b_left
  have nl : f_need_leaving [hD 6 G, nD x] st = .ok .non st := by
    refine f_ret ?_
    unfold b_need_leaving
    refine q_expr0 (e_call0 (xs := [hD 6 G]) rfl rfl (need_hall_eq (by decide) (by decide))) ?_
    refine q_ifS0 (k := false) (t_test (e_op0 (x := nD 6) (y := .int 2) (z := .bl false) (e_op0 (x := hD 6 G) (y := .int 0) rfl e_con (x_ixT (i := 0) rfl)) e_con rfl)) (.inr ⟨rfl, q_nop ?_⟩)
    have := s_expr (m := cCallN 2 f_need_person (aCons (cVar 0) (aCons (cVar 1) (aNil)))) (ρ := startE 2 [hD 6 G, nD x]) (d := .non) (st := st) (st1 := st) (e_call0 (xs := [hD 6 G, nD x]) rfl rfl (need_person_eq hx))
    show retD (sExpr _ _ _) = _
    rw [this]
    rfl
  refine q_expr0 (e_call0 (xs := [hD 6 G, nD x]) rfl rfl nl) ?_
  refine q_ifS0 (k := false) (t_orF (st1 := st) (t_not (k := true) (t_test (e_isi (d := .str L) rfl rfl))) (t_orF (st1 := st) (t_test (e_op0 (x := nD 1) (y := nD 1) (e_blt0 (xs := [.str L]) (e_cons0 rfl e_nil) h1) e_con (by rw [u_neN]; simp))) (t_test (e_op0 (x := .str L) (y := .str "XYZ") rfl e_con h2)))) (.inr ⟨rfl, q_nop ?_⟩)
  exact q_ret (e_call0 (xs := [hD 6 G, nD x, .str L]) rfl rfl hb)
/-! ### the ring -/
def rgI (G : Nat → Nat → Bool) (here xs : List Nat) : List Nat := xs.foldl (fun h x => h ++ (frL 5 G x).filter fun y => !decide (y ∈ h)) here
def rE (G : Nat → Nat → Bool) (h : List Nat) (o1 o3 : Option (Kd × D)) : SE := [some (.sh, hD 5 G), o1, some (.sh, .lst (h.map nD)), o3, none]
def rB : SM := sSetS 2 (cOp xAdd (cVar 2) (cLst (fComp [4] (.nm 4) (iSeq (cCallN 2 f__law_friends (aCons (cVar 0) (aCons (cVar 1) (aNil))))) (cTest (cOp (xInA true) (cVar 4) (cVar 2))) (cVar 4))))
theorem fr5_len : (frL 5 G x).length ≤ 5 := by
  unfold frL
  exact Nat.le_trans (List.length_filter_le _ _) (by rw [List.length_range]; exact Nat.le_refl 5)
theorem rg_in (g : Gr G) : ∀ (xs h : List Nat) (o1 o3 : Option (Kd × D)), (∀ x ∈ xs, x < 5) → h.length + 5 * xs.length ≤ 100000 → (∀ x ∈ h, x < 5) → okS o1 → ∃ o1', okS o1' ∧ forL (.nm 1) rB (xs.map nD) (rE G h o1 o3) st = .ok (.nx, rE G (rgI G h xs) o1' o3) st ∧ (rgI G h xs).length ≤ h.length + 5 * xs.length ∧ ∀ x ∈ rgI G h xs, x < 5
  | [], h, o1, o3, _, _, hh, h1 => ⟨o1, h1, rfl, by simp [rgI], hh⟩
  | x :: xs, h, o1, o3, hx, hl, hh, h1 => by
    have hx5 := hx x List.mem_cons_self
    rw [List.length_cons] at hl
    have fl : ((frL 5 G x).filter fun y => !decide (y ∈ h)).length ≤ 5 := Nat.le_trans (List.length_filter_le _ _) fr5_len
    have hn : (h ++ (frL 5 G x).filter fun y => !decide (y ∈ h)).length ≤ h.length + 5 := by rw [List.length_append]; omega
    obtain ⟨o1', q, e, e2, e3⟩ := rg_in g xs (h ++ (frL 5 G x).filter fun y => !decide (y ∈ h)) (some (.sh, nD x)) o3 (fun y hy => hx y (List.mem_cons_of_mem _ hy)) (by omega) (fun y hy => by
      rcases List.mem_append.mp hy with a | a
      · exact hh y a
      · exact (mem_frL.mp (List.mem_filter.mp a).1).1) okS_sh
    refine ⟨o1', q, u_for (bind_at (i := 1) rfl h1) ?_ e, by rw [List.length_cons]; have : (rgI G h (x :: xs)).length = (rgI G (h ++ (frL 5 G x).filter fun y => !decide (y ∈ h)) xs).length := rfl; omega, e3⟩
    unfold rB
    refine s_setS (d := .lst ((h ++ (frL 5 G x).filter fun y => !decide (y ∈ h)).map nD)) ?_ rfl
    refine e_op0 (x := .lst (h.map nD)) (y := .lst (((frL 5 G x).filter fun y => !decide (y ∈ h)).map nD)) rfl (e_lst (w_compF (f := nD) (g := nD) (p := fun y => !decide (y ∈ h)) (xs := frL 5 G x) (w_seqL (e_call0 (xs := [hD 5 G, nD x]) rfl rfl (law_friends_eq g (by decide) hx5))) (by have := fr5_len (G := G) (x := x); omega) fun y _ => ⟨_, rfl, t_test (e_op0 (x := nD y) (y := .lst (h.map nD)) rfl rfl (by rw [u_inL, Bool.true_xor])), fun _ => rfl⟩)) ?_
    rw [x_addL, List.map_append]
    rw [List.length_map, List.length_map]
    show _ ≤ 16777216
    omega
theorem rg_out (g : Gr G) : ∀ (ts h : List Nat) (o1 o3 : Option (Kd × D)) (k : Nat), h.length ≤ k → k * 6 ^ ts.length ≤ 8000 → (∀ x ∈ h, x < 5) → okS o1 → okS o3 → ∃ o1' o3', forL (.nm 3) (sFor [] (iSeq (cLst (fBlt xList (aCons (cVar 2) (aNil))))) (.nm 1) rB) (ts.map nD) (rE G h o1 o3) st = .ok (.nx, rE G (ts.foldl (fun h _ => rgI G h h) h) o1' o3') st
  | [], h, o1, o3, k, _, _, _, _, _ => ⟨o1, o3, rfl⟩
  | t :: ts, h, o1, o3, k, hk, hl, hh, h1, h3 => by
    rw [List.length_cons, Nat.pow_succ] at hl
    have h6 : 1 ≤ 6 ^ ts.length := Nat.one_le_pow _ _ (by decide)
    have hk8 : k * 6 ≤ 8000 := Nat.le_trans (Nat.mul_le_mul_left k (show 6 ≤ 6 ^ ts.length * 6 by omega)) hl
    obtain ⟨o1', q1, e1, e2, e3⟩ := rg_in (st := st) g h h o1 (some (.sh, nD t)) hh (by omega) hh h1
    obtain ⟨a, b, e⟩ := rg_out g ts (rgI G h h) o1' (some (.sh, nD t)) (k * 6) (by omega) (by rw [Nat.mul_assoc, Nat.mul_comm 6]; exact hl) e3 q1 okS_sh
    refine ⟨a, b, u_for (bind_at (i := 3) rfl h3) (u_sfor ?_ (pures_ns h) e1) e⟩
    exact w_seqL (e_lst (e_fblt0 (xs := [.lst (h.map nD)]) (e_cons0 rfl e_nil) rfl))
theorem law_ring_eq (g : Gr G) : f__law_ring [hD 5 G] st = .ok (.bl (rgB G)) st := by
  refine f_ret ?_
  unfold b__law_ring
  have c1 : cTest (cOp xNe (cLst (fComp [1] (.nm 1) (iRange1 (aCons (cCon (.int 5)) (aNil))) (cTest (cOp xNe (cBlt xLen (aCons (cCallN 2 f__law_friends (aCons (cVar 0) (aCons (cVar 1) (aNil)))) (aNil))) (cCon (.int 2)))) (cVar 1))) (cLst (cLim (aNil)))) (er (startE 5 [hD 5 G])) st = .ok (!((List.range 5).all fun x => decide ((frL 5 G x).length = 2))) st := by
    refine t_test (e_op0 (x := .lst (((List.range 5).filter fun x => !decide ((frL 5 G x).length = 2)).map nD)) (y := .lst []) (e_lst (w_compF (f := nD) (g := nD) (p := fun x => !decide ((frL 5 G x).length = 2)) (xs := List.range 5) (w_rangeN (n := 5) (e_cons0 e_con e_nil) (by decide)) (by decide) fun x hx => ⟨_, rfl, t_test (e_op0 (x := nD (frL 5 G x).length) (y := nD 2) (e_blt0 (xs := [.lst ((frL 5 G x).map nD)]) (e_cons0 (e_call0 (xs := [hD 5 G, nD x]) rfl rfl (law_friends_eq g (by decide) (List.mem_range.mp hx))) e_nil) (by rw [u_len, List.length_map])) e_con u_neN), fun _ => rfl⟩)) (e_lst (e_lim e_nil (by decide))) ?_)
    rw [u_nnil (nb_ns _) (by decide)]
    congr 3
    rw [Bool.eq_iff_iff, List.isEmpty_iff, List.map_eq_nil_iff, List.filter_eq_nil_iff, List.all_eq_true]
    exact forall_congr' fun x => forall_congr' fun _ => by simp
  cases ha : (List.range 5).all fun x => decide ((frL 5 G x).length = 2) with
  | false =>
    rw [ha] at c1
    unfold rgB
    rw [ha]
    exact q_ifS0 (k := true) c1 (.inl ⟨rfl, q_retS e_con⟩)
  | true =>
    rw [ha] at c1
    obtain ⟨a, b, e⟩ := rg_out (st := st) g (List.range 5) [0] none none 1 (by decide) (by decide) (fun x hx => by rw [List.mem_singleton.mp hx]; decide) okS_none okS_none
    refine q_ifS0 (k := false) c1 (.inr ⟨rfl, q_nop ?_⟩)
    refine q_step (st1 := st) (ρ' := rE G [0] none none) (s_setS (d := .lst [.int 0]) rfl rfl) ?_
    refine q_for0 (w_rangeN (n := 5) (e_cons0 e_con e_nil) (by decide)) (pures_ns _) e ?_
    refine q_ret (e_op0 (x := nD (rgR G).length) (y := nD 5) (e_blt0 (xs := [.lst ((rgR G).map nD)]) (e_cons0 rfl e_nil) (by rw [u_len, List.length_map])) e_con ?_)
    rw [u_eqN]
    unfold rgB
    rw [ha, Bool.true_and]
theorem lenX : xLen [.str "X"] = some (nD 1) := rfl
theorem lenY : xLen [.str "Y"] = some (nD 1) := rfl
theorem lenZ : xLen [.str "Z"] = some (nD 1) := rfl
end LW

namespace LW
variable {n x y : Nat} {G F : Nat → Nat → Bool} {st : DS}
theorem law_isB {a b : Bool} : f__law_is [.bl a, .bl b] st = .ok (.bl (decide (a = b))) st := by
  refine f_ret (q_ret (e_andT (st1 := st) (e_isi (d := .bl a) rfl rfl) (e_op0 (x := .bl a) (y := .bl b) rfl rfl ?_)))
  cases a <;> cases b <;> rfl
theorem keys_dD {M : Mp} (h : M ≠ []) : keysOf (dD n M) = some (M.map fun q => lD n q.1) := by
  cases M with
  | nil => exact absurd rfl h
  | cons q M => rfl
theorem lD_inj {L L' : Nd} : lD n L = lD n L' ↔ L = L' := ⟨fun h => nk_inj (congrArg nkD h), fun h => by rw [h]⟩
theorem far_few {a : Nd} {M : Mp} (ha : vL n a) (hn : n ≤ 5) (F : Far n a M) : M.length ≤ 1024 := by
  have h := nodup_le (U := subs (pairsN n)) F.nd fun L hL => by
    obtain ⟨⟨b, j⟩, hq, e⟩ := List.mem_map.mp hL
    have e : b = L := e
    subst e
    rw [← show prs n (gOf b) = b from rch_v ha (F.ok b j hq).1]
    exact filter_subs _ _
  rw [List.length_map, subs_len] at h
  have := Nat.pow_le_pow_right (n := 2) (by decide) (pairsN_few hn)
  have e : 2 ^ 10 = 1024 := by decide
  omega
theorem far_ne {a : Nd} {M : Mp} (F : Far n a M) : M ≠ [] := fun z => by
  have := F.all a 0 rfl
  rw [z] at this
  simp at this
/-! what turns reach -/
theorem rch_turns (g : Gr G) : ∀ {i : Nat} {M : Nd}, Rch n (prs n G) i M → ∃ l : List Nat, (∀ z ∈ l, z < n) ∧ M = prs n (turnsG l G)
  | 0, M, h => ⟨[], fun _ h => (nomatch h), h⟩
  | i + 1, M, h => by
    obtain ⟨c, z, hz, hc, e⟩ := h
    obtain ⟨l, hl, e2⟩ := rch_turns g hc
    refine ⟨l ++ [z], fun w hw => ?_, ?_⟩
    · rcases List.mem_append.mp hw with a | a
      · exact hl w a
      · rw [List.mem_singleton.mp a]; exact hz
    · rw [e, e2, T_prs (g.turns l) hz]
      unfold turnsG
      rw [List.foldl_append]
      rfl
theorem turns_rch {a : Nd} : ∀ (l : List Nat) {i : Nat} {F : Nat → Nat → Bool}, Gr F → (∀ z ∈ l, z < n) → Rch n a i (prs n F) → Rch n a (i + l.length) (prs n (turnsG l F))
  | [], _, _, _, _, h => h
  | z :: l, i, F, g, hl, h => by
    have := turns_rch l (i := i + 1) (F := turnG z F) (g.turn z) (fun w hw => hl w (List.mem_cons_of_mem _ hw)) ⟨prs n F, z, hl z List.mem_cons_self, h, (T_prs g (hl z List.mem_cons_self)).symm⟩
    rw [List.length_cons, show i + (l.length + 1) = i + 1 + l.length by omega]
    exact this
def rk (M : Nd) : Bool := rgB (gC (cF (gOf M)))
theorem rk_prs (g : Gr F) : rk (prs 5 F) = rgB (gC (cF F)) := by
  unfold rk
  rw [cF_congr fun a b ha hb => gOf_prs g ha hb]
theorem ring_key {M : Nd} (h : vL 5 M) : f__law_ring [lD 5 M] st = .ok (.bl (rk M)) st := by
  have e : lD 5 M = hD 5 (gC (cF (gOf M))) := by
    have : prs 5 (gC (cF (gOf M))) = M := by
      rw [prs_congr (G' := gOf M) fun a b h1 h2 => gC_cF (vL_gr h) (by omega) h2]
      exact h
    unfold hD
    rw [this]
    rfl
  rw [e]
  exact law_ring_eq (gC_gr _)
theorem ringed_iff (g : Gr G) : ((bfs 5 (prs 5 G)).filter fun q => rk q.1).isEmpty = grB 5 G := by
  have Fr := bfs_far (vL_prs (n := 5) g) (by decide)
  rw [Bool.eq_iff_iff, List.isEmpty_iff, List.filter_eq_nil_iff]
  constructor
  · intro h
    cases hg : grB 5 G with
    | true => rfl
    | false =>
      obtain ⟨l, hl, hr⟩ := (ring5 g).mpr hg
      have hm := Fr.all _ _ (turns_rch l (i := 0) g hl rfl)
      obtain ⟨q, hq, e⟩ := List.mem_map.mp hm
      refine absurd ?_ (h q hq)
      rw [e, rk_prs (g.turns l)]
      exact hr
  · intro hg q hq hr
    obtain ⟨l, hl, e⟩ := rch_turns g (Fr.ok q.1 q.2 hq).1
    rw [e, rk_prs (g.turns l)] at hr
    have := (ring5 g).mp ⟨l, hl, hr⟩
    rw [hg] at this
    cases this
theorem bfs_few (g : Gr G) : (bfs 5 (prs 5 G)).length ≤ 1000000 := by
  have Fr := bfs_far (vL_prs (n := 5) g) (by decide)
  have := far_few (vL_prs (n := 5) g) (by decide) Fr
  omega
theorem ringed_gen {B : Mp} {a : Nd} {p : Nd → Bool} (hcl : f__law_class [lD 5 a] st = .ok (dD 5 B) st) (hne : B ≠ []) (hl : B.length ≤ 1000000) (hr : ∀ q ∈ B, f__law_ring [lD 5 q.1] st = .ok (.bl (p q.1)) st) : f__law_ringed [lD 5 a] st = .ok (.bl (!(B.filter fun q => p q.1).isEmpty)) st := by
  have hi : iDic (cCallN 1 f__law_class (aCons (cVar 0) (aNil))) (er (startE 2 [lD 5 a])) st = .ok (B.map fun q => lD 5 q.1) st := by
    unfold iDic
    rw [e_call0 (n := 1) (F := f__law_class) (xs := [lD 5 a]) (z := dD 5 B) rfl rfl hcl, Res.bind_ok, keys_dD hne]
    rfl
  have hc : fComp [1] (.nm 1) (iDic (cCallN 1 f__law_class (aCons (cVar 0) (aNil)))) (cTest (cCallN 1 f__law_ring (aCons (cVar 1) (aNil)))) (cVar 1) (er (startE 2 [lD 5 a])) st = .ok ((B.filter fun q => p q.1).map fun q => lD 5 q.1) st :=
    w_compF (f := fun q => lD 5 q.1) (g := fun q => lD 5 q.1) (p := fun q => p q.1) (xs := B) hi hl fun q hq => ⟨(er (startE 2 [lD 5 a])).set 1 (some (lD 5 q.1)), rfl, t_test (e_call0 (n := 1) (F := f__law_ring) (xs := [lD 5 q.1]) (z := .bl (p q.1)) rfl rfl (hr q hq)), fun _ => rfl⟩
  refine f_ret ?_
  unfold b__law_ringed
  refine q_ret (e_op0 (x := .lst ((B.filter fun q => p q.1).map fun q => lD 5 q.1)) (y := .lst []) (e_lst hc) (e_lst (e_lim e_nil (by decide))) ?_)
  rw [u_nnil (k := 3) (nbs_map fun q _ => nb_lD) (by decide)]
  congr 3
  cases B.filter fun q => p q.1 <;> rfl
theorem law_ringed_eq (g : Gr G) : f__law_ringed [hD 5 G] st = .ok (.bl (!grB 5 G)) st := by
  have Fr := bfs_far (vL_prs (n := 5) g) (by decide)
  have := ringed_gen (st := st) (p := rk) (class_eq (vL_prs g) (by decide)) (far_ne Fr) (bfs_few g) fun q hq => ring_key (rch_v (vL_prs g) (Fr.ok q.1 q.2 hq).1)
  rw [ringed_iff g] at this
  exact this
/-! small halls -/
theorem small_t : ((List.range 64).all fun c => tb T5 c) = true := by decide +kernel
theorem small (g : Gr G) (hn : n ≤ 4) : grB n G = true := by
  let F : Nat → Nat → Bool := fun a b => decide (a < 4) && decide (b < 4) && G a b
  have gF : Gr F := ⟨fun a b => by show (decide (a < 4) && decide (b < 4) && G a b) = (decide (b < 4) && decide (a < 4) && G b a); rw [g.sym a b, Bool.and_comm (decide (a < 4))], fun a => by show (_ && G a a) = false; rw [g.irr, Bool.and_false]⟩
  have h4 : ∀ a, F a 4 = false := fun a => by show (decide (a < 4) && decide (4 < 4) && G a 4) = false; simp
  have hc : cF F < 64 := by
    unfold cF
    rw [h4, h4, h4, h4]
    have b : ∀ (c : Bool) k, bN1 c k ≤ k := fun c k => by unfold bN1; split <;> omega
    have := b (F 0 1) 1
    have := b (F 0 2) 2
    have := b (F 1 2) 4
    have := b (F 0 3) 8
    have := b (F 1 3) 16
    have := b (F 2 3) 32
    have e : ∀ k, bN1 false k = 0 := fun k => rfl
    rw [e, e, e, e]
    omega
  have ht := List.all_eq_true.mp small_t (cF F) (List.mem_range.mpr hc)
  rw [t5_eq gF, grB_iff gF] at ht
  rw [grB_iff g]
  exact red_id gF ht List.nodup_range (fun w hw => List.mem_range.mpr (by have := List.mem_range.mp hw; omega)) fun a ha b hb => by
    have := List.mem_range.mp ha
    have := List.mem_range.mp hb
    show G a b = (decide (a < 4) && decide (b < 4) && G a b)
    rw [decide_eq_true (show a < 4 by omega), decide_eq_true (show b < 4 by omega)]
    rfl
/-! ### six persons -/
def lefts (x : Nat) (G : Nat → Nat → Bool) : List Nd := [prs 5 (lvX x G), prs 5 (delF x (turnG x G)), prs 5 (delF x G)]
def addL (acc : List Nd) (M : Nd) : List Nd := if M ∈ acc then acc else acc ++ [M]
theorem mem_addL {acc : List Nd} {M N : Nd} : N ∈ addL acc M ↔ N ∈ acc ∨ N = M := by
  unfold addL
  split
  · rename_i h
    exact ⟨.inl, fun h' => h'.elim id fun e => e ▸ h⟩
  · simp
theorem len_addL {acc : List Nd} {M : Nd} : (addL acc M).length ≤ acc.length + 1 := by unfold addL; split <;> simp
theorem mem_adds {N : Nd} : ∀ (l acc : List Nd), N ∈ l.foldl addL acc ↔ N ∈ acc ∨ N ∈ l
  | [], acc => by simp
  | M :: l, acc => by rw [List.foldl_cons, mem_adds l, mem_addL, List.mem_cons, or_assoc]
def accs (G : Nat → Nat → Bool) (xs : List Nat) (acc : List Nd) : List Nd := xs.foldl (fun a x => (lefts x G).foldl addL a) acc
theorem mem_accs {N : Nd} : ∀ (xs : List Nat) (acc : List Nd), N ∈ accs G xs acc ↔ N ∈ acc ∨ ∃ x ∈ xs, N ∈ lefts x G
  | [], acc => by simp [accs]
  | x :: xs, acc => by
    show N ∈ accs G xs ((lefts x G).foldl addL acc) ↔ _
    rw [mem_accs xs, mem_adds]
    simp [or_assoc]
def lE6 (G : Nat → Nat → Bool) (acc : List Nd) (o4 o5 o6 : Option (Kd × D)) : SE := [none, some (.sh, .row), some (.sh, hD 6 G), some (.own, .lst (acc.map (lD 5))), o4, o5, o6, none]
def b6I : SM := sSeq (sSetS 6 (cCallN 3 f_left (aCons (cVar 2) (aCons (cVar 4) (aCons (cVar 5) (aNil))))))
  (sIf (cTest (cOp (xInA true) (cVar 6) (cVar 3)))
  (sExprG (gAppend 3 (gSh (cVar 6))))
  (sNop))
theorem in_acc {M : Nd} {acc : List Nd} : xInA true (lD 5 M) (.lst (acc.map (lD 5))) = some (.bl (true ^^ decide (M ∈ acc))) := by
  rw [x_inL (k := 3) (nbs_map fun q _ => nb_lD) nb_lD (by decide) (by decide)]
  congr 3
  rw [Bool.eq_iff_iff]
  simp only [decide_eq_true_iff, List.mem_map]
  exact ⟨fun ⟨N, h, e⟩ => by rw [← lD_inj.mp e]; exact h, fun h => ⟨M, h, rfl⟩⟩
theorem one_l {acc : List Nd} {L : Str} {o5 o6 : Option (Kd × D)} (hl : f_left [hD 6 G, nD x, .str L] st = .ok (hD 5 F) st) (ha : acc.length ≤ 1000) (h6 : okS o6) :
    b6I (lE6 G acc (some (.sh, nD x)) (some (.sh, .str L)) o6) st = .ok (.nx, lE6 G (addL acc (prs 5 F)) (some (.sh, nD x)) (some (.sh, .str L)) (some (.sh, hD 5 F))) st := by
  unfold b6I
  refine s_seq (ρ' := lE6 G acc (some (.sh, nD x)) (some (.sh, .str L)) (some (.sh, hD 5 F))) (s_setS (e_call0 (xs := [hD 6 G, nD x, .str L]) rfl rfl hl) (nl_any (i := 6) rfl h6)) ?_
  have ht : cTest (cOp (xInA true) (cVar 6) (cVar 3)) (er (lE6 G acc (some (.sh, nD x)) (some (.sh, .str L)) (some (.sh, hD 5 F)))) st = .ok (true ^^ decide (prs 5 F ∈ acc)) st :=
    t_test (e_op0 (x := lD 5 (prs 5 F)) (y := .lst (acc.map (lD 5))) rfl rfl in_acc)
  unfold addL
  by_cases c : prs 5 F ∈ acc
  · rw [if_pos c]
    exact s_ifF ht (by simp [c]) rfl
  · rw [if_neg c]
    refine s_ifT ht (by simp [c]) (s_exprG (d := .non) ?_)
    rw [g_append (zs := acc.map (lD 5)) (xs := acc.map (lD 5)) (d := hD 5 F) rfl (g_sh rfl) rfl (by rw [List.length_map]; show _ < 16777216; omega)]
    unfold lE6
    rw [List.map_append]
    rfl
theorem six_in {acc : List Nd} {o5 o6 : Option (Kd × D)} (g : Gr G) (hx : x < 6) (ha : acc.length ≤ 900) (h5 : okS o5) (h6 : okS o6) : ∃ o5' o6', okS o5' ∧ okS o6' ∧ sFor [] (iSrc (cCon (.str "XYZ"))) (.nm 5) b6I (lE6 G acc (some (.sh, nD x)) o5 o6) st = .ok (.nx, lE6 G ((lefts x G).foldl addL acc) (some (.sh, nD x)) o5' o6') st := by
  have a1 := len_addL (acc := acc) (M := prs 5 (lvX x G))
  have a2 := len_addL (acc := addL acc (prs 5 (lvX x G))) (M := prs 5 (delF x (turnG x G)))
  refine ⟨some (.sh, .str "Z"), some (.sh, hD 5 (delF x G)), okS_sh, okS_sh, u_sfor (xs := [.str "X", .str "Y", .str "Z"]) rfl rfl ?_⟩
  refine u_for (bind_at (i := 5) rfl h5) (one_l (o5 := o5) (left_of g hx lenX iX (beh_X g hx)) (by omega) h6) ?_
  refine u_for (bind_at (i := 5) rfl okS_sh) (one_l (o5 := none) (left_of g hx lenY iY (beh_Y g hx)) (by omega) okS_sh) ?_
  exact u_for (bind_at (i := 5) rfl okS_sh) (one_l (o5 := none) (left_of g hx lenZ iZ (beh_Z g hx)) (by omega) okS_sh) rfl
theorem len_lefts {acc : List Nd} : ((lefts x G).foldl addL acc).length ≤ acc.length + 3 := by
  have a1 := len_addL (acc := acc) (M := prs 5 (lvX x G))
  have a2 := len_addL (acc := addL acc (prs 5 (lvX x G))) (M := prs 5 (delF x (turnG x G)))
  have a3 := len_addL (acc := addL (addL acc (prs 5 (lvX x G))) (prs 5 (delF x (turnG x G)))) (M := prs 5 (delF x G))
  show (addL (addL (addL acc (prs 5 (lvX x G))) (prs 5 (delF x (turnG x G)))) (prs 5 (delF x G))).length ≤ _
  omega
theorem six_out (g : Gr G) : ∀ (xs : List Nat) (acc : List Nd) (o4 o5 o6 : Option (Kd × D)), (∀ x ∈ xs, x < 6) → acc.length + 3 * xs.length ≤ 900 → okS o4 → okS o5 → okS o6 → ∃ o4' o5' o6', forL (.nm 4) (sFor [] (iSrc (cCon (.str "XYZ"))) (.nm 5) b6I) (xs.map nD) (lE6 G acc o4 o5 o6) st = .ok (.nx, lE6 G (accs G xs acc) o4' o5' o6') st
  | [], acc, o4, o5, o6, _, _, _, _, _ => ⟨o4, o5, o6, rfl⟩
  | x :: xs, acc, o4, o5, o6, hx, hl, h4, h5, h6 => by
    rw [List.length_cons] at hl
    obtain ⟨a5, a6, q5, q6, e⟩ := six_in (st := st) (acc := acc) g (hx x List.mem_cons_self) (by omega) h5 h6
    have ll := len_lefts (x := x) (G := G) (acc := acc)
    obtain ⟨b4, b5, b6, e2⟩ := six_out g xs ((lefts x G).foldl addL acc) (some (.sh, nD x)) a5 a6 (fun y hy => hx y (List.mem_cons_of_mem _ hy)) (by omega) okS_sh q5 q6
    exact ⟨b4, b5, b6, u_for (bind_at (i := 4) rfl h4) e e2⟩
theorem lvX_gr (g : Gr G) : Gr (lvX x G) := by
  unfold lvX
  split
  · exact del_gr g
  · exact del_gr (g.turns _)
theorem six_iff (g : Gr G) : ((accs G (List.range 6) []).filter fun M => !grB 5 (gOf M)).isEmpty = grB 6 G := by
  have key : ∀ {F : Nat → Nat → Bool}, Gr F → grB 5 (gOf (prs 5 F)) = grB 5 F := fun gF => grB_congr (vL_gr (vL_prs gF)) gF fun a b ha hb => gOf_prs gF ha hb
  rw [Bool.eq_iff_iff, List.isEmpty_iff, List.filter_eq_nil_iff]
  constructor
  · intro h
    have hh : ∀ x, x < 6 → ∀ M ∈ lefts x G, grB 5 (gOf M) = true := fun x hx M hM => by
      have := h M ((mem_accs _ _).mpr (.inr ⟨x, List.mem_range.mpr hx, hM⟩))
      simpa using this
    refine six_back g (fun x hx => ?_) ?_
    · rw [← key (del_gr g)]
      exact hh x hx _ (by simp [lefts])
    · rw [← key (del_gr (g.turn 0))]
      exact hh 0 (by decide) _ (by simp [lefts])
  · intro hg M hM
    rw [grB_iff g] at hg
    rcases (mem_accs _ _).mp hM with h | ⟨x, hx, h⟩
    · cases h
    · have hx6 := List.mem_range.mp hx
      have rt : ∀ l : List Nat, (∀ a ∈ l, a < 6) → Red (turnsG l G) (List.range 6) := fun l hl => (red_turns g List.nodup_range l fun a ha => List.mem_range.mpr (hl a ha)).mpr hg
      have : grB 5 (gOf M) = true := by
        simp only [lefts, List.mem_cons, List.not_mem_nil, or_false] at h
        rcases h with rfl | rfl | rfl
        · rw [key (lvX_gr g)]
          unfold lvX
          cases hf : frL 6 G x with
          | nil => rw [if_pos rfl]; exact del_her g hg
          | cons y r =>
            have hy : y < 6 := (mem_frL.mp (by rw [hf]; exact List.mem_cons_self)).1
            rw [if_neg (by simp)]
            exact del_her (g.turns _) (rt [x, y, x] (by
              intro z hz
              simp only [List.mem_cons, List.not_mem_nil, or_false] at hz
              omega))
        · rw [key (del_gr (g.turn x))]
          exact del_her (g.turn x) (rt [x] fun z hz => by rw [List.mem_singleton.mp hz]; exact hx6)
        · rw [key (del_gr g)]
          exact del_her g hg
      rw [this]
      decide
end LW

namespace LW
variable {n x y : Nat} {G F : Nat → Nat → Bool} {st : DS}
theorem draw_m (st : DS) (hp : 0 ≤ st.pos) : ∃ (m : Nat) (st1 : DS), 1 ≤ m ∧ m ≤ 6 ∧ 0 ≤ st1.pos ∧ ∀ {ρ : EE}, cVar 1 ρ st = .ok .row st → cIf (cTest (cOp xEq (cCallN 2 f__law_taken (aCons (cVar 1) (aCons (cCon (.int 8)) (aNil)))) (cCon (.int 0)))) (cCon (.int 6)) (cCon (.int 5)) ρ st = .ok (nD m) st1 := by
  obtain ⟨v, st1, t1, v1, p1⟩ := taken_nat 8 st (by decide) (by decide) hp
  have hc : ∀ {ρ : EE}, cVar 1 ρ st = .ok .row st → cTest (cOp xEq (cCallN 2 f__law_taken (aCons (cVar 1) (aCons (cCon (.int 8)) (aNil)))) (cCon (.int 0))) ρ st = .ok (decide (v = 0)) st1 := fun {ρ} h =>
    t_test (e_op (x := nD v) (y := nD 0) (st1 := st1) (st2 := st1) (e_call (xs := [.row, nD 8]) (st1 := st) (e_cons0 h (e_cons0 e_con e_nil)) rfl t1) e_con u_eqN)
  by_cases hv : v = 0
  · exact ⟨6, st1, by decide, by decide, p1, fun h => e_if (hc h) (by rw [decide_eq_true hv]; rfl)⟩
  · exact ⟨5, st1, by decide, by decide, p1, fun h => e_if (hc h) (by rw [decide_eq_false hv]; rfl)⟩
theorem ringed_acc {M : Nd} (h : vL 5 M) : f__law_ringed [lD 5 M] st = .ok (.bl (!grB 5 (gOf M))) st := by
  rw [lD_hD h]
  exact law_ringed_eq (vL_gr h)
theorem acc_v (g : Gr G) {M : Nd} (hM : M ∈ accs G (List.range 6) []) : vL 5 M := by
  rcases (mem_accs _ _).mp hM with h | ⟨x, _, h⟩
  · cases h
  · simp only [lefts, List.mem_cons, List.not_mem_nil, or_false] at h
    rcases h with rfl | rfl | rfl
    · exact vL_prs (lvX_gr g)
    · exact vL_prs (del_gr (g.turn x))
    · exact vL_prs (del_gr g)
theorem accs_len : ∀ (xs : List Nat) (acc : List Nd), (accs G xs acc).length ≤ acc.length + 3 * xs.length
  | [], acc => by show acc.length ≤ _; omega
  | x :: xs, acc => by
    have h := accs_len xs ((lefts x G).foldl addL acc)
    have ll := len_lefts (x := x) (G := G) (acc := acc)
    show (accs G xs ((lefts x G).foldl addL acc)).length ≤ _
    rw [List.length_cons]
    omega
theorem fin_eq {A : List Nd} {p : Nd → Bool} {b : Bool} {o4 o5 o6 : Option (Kd × D)} (hl : A.length ≤ 1000) (ig : f_is_grown [hD 6 G] st = .ok (.bl b) st) (hr : ∀ M ∈ A, f__law_ringed [lD 5 M] st = .ok (.bl (p M)) st) (hb : (A.filter p).isEmpty = b) :
    retD (sRet (cCallN 2 f__law_is (aCons (cCallN 1 f_is_grown (aCons (cVar 2) (aNil))) (aCons (cOp xEq (cLst (fComp [7] (.nm 7) (iSeq (cVar 3)) (cTest (cCallN 1 f__law_ringed (aCons (cVar 7) (aNil)))) (cVar 7))) (cLst (cLim (aNil)))) (aNil)))) (lE6 G A o4 o5 o6) st) = .ok (.bl true) st := by
  have hc : fComp [7] (.nm 7) (iSeq (cVar 3)) (cTest (cCallN 1 f__law_ringed (aCons (cVar 7) (aNil)))) (cVar 7) (er (lE6 G A o4 o5 o6)) st = .ok ((A.filter p).map (lD 5)) st :=
    w_compF (f := lD 5) (g := lD 5) (p := p) (xs := A) (w_seqL rfl) (by omega) fun M hM => ⟨_, rfl, t_test (e_call0 (xs := [lD 5 M]) rfl rfl (hr M hM)), fun _ => rfl⟩
  refine q_ret (e_call0 (xs := [.bl b, .bl ((A.filter p).isEmpty)]) (e_cons0 (e_call0 (xs := [hD 6 G]) rfl rfl ig) (e_cons0 (e_op0 (x := .lst ((A.filter p).map (lD 5))) (y := .lst []) (e_lst hc) (e_lst (e_lim e_nil (by decide))) ?_) e_nil)) rfl ?_)
  · rw [u_nil (k := 3) (nbs_map fun q _ => nb_lD) (by decide)]
    congr 2
    cases A.filter p <;> rfl
  · rw [law_isB, hb, decide_eq_true rfl]
theorem law_true : ∀ ns, okL 63 ns → isTrue (b_law (lawE 8 1) ⟨ns, 0, 7232, 0⟩) = true := by
  intro ns _
  obtain ⟨m, st0, m1, m6, p0, em⟩ := draw_m ⟨ns, 0, 7232, 0⟩ (by show (0 : Int) ≤ 0; decide)
  obtain ⟨n, G, st, e1, h1, hn, g, hp⟩ := hall_eq m m1 (by omega) st0 p0
  refine u_true (st' := st) ?_
  unfold b_law
  refine q_step (st1 := st) (ρ' := [none, some (.sh, .row), some (.sh, hD n G), none, none, none, none, none]) (s_setS (d := hD n G) (e_call (xs := [.row, nD m]) (st1 := st0) (e_cons (st1 := ⟨ns, 0, 7232, 0⟩) rfl (e_cons (st1 := st0) (em rfl) e_nil)) rfl e1) rfl) ?_
  have n0 : ∀ {ρ : EE}, cVar 2 ρ st = .ok (hD n G) st → cOp xIx (cVar 2) (cCon (.int 0)) ρ st = .ok (nD n) st := fun h => e_op0 h e_con (x_ixT (i := 0) rfl)
  have ig := is_grown_eq (st := st) g h1 (show n ≤ 8 by omega)
  by_cases c5 : n < 5
  · refine q_ifS0 (k := true) (t_test (e_op0 (x := nD n) (y := nD 5) (n0 rfl) e_con (by rw [x_ltN, decide_eq_true c5]))) (.inl ⟨rfl, q_retS ?_⟩)
    rw [small g (by omega)] at ig
    exact e_op0 (x := .bl true) (y := .bl true) (e_call0 (xs := [hD n G]) rfl rfl ig) e_con rfl
  refine q_ifS0 (k := false) (t_test (e_op0 (x := nD n) (y := nD 5) (n0 rfl) e_con (by rw [x_ltN, decide_eq_false c5]))) (.inr ⟨rfl, q_nop ?_⟩)
  by_cases e5 : n = 5
  · subst e5
    refine q_ifS0 (k := true) (t_test (e_op0 (x := nD 5) (y := nD 5) (n0 rfl) e_con (by rw [u_eqN]; rfl))) (.inl ⟨rfl, q_retS ?_⟩)
    refine e_call0 (xs := [.bl (grB 5 G), .bl (!!grB 5 G)]) (e_cons0 (e_call0 (xs := [hD 5 G]) rfl rfl ig) (e_cons0 (e_notV (e_call0 (xs := [hD 5 G]) rfl rfl (law_ringed_eq g))) e_nil)) rfl ?_
    rw [law_isB, Bool.not_not, decide_eq_true rfl]
  have e6 : n = 6 := by omega
  subst e6
  refine q_ifS0 (k := false) (t_test (e_op0 (x := nD 6) (y := nD 5) (n0 rfl) e_con (by rw [u_eqN]; rfl))) (.inr ⟨rfl, q_nop ?_⟩)
  refine q_step (st1 := st) (ρ' := lE6 G [] none none none) (s_own (xs := []) (e_lim e_nil (by decide)) ⟨rfl, rfl⟩) ?_
  obtain ⟨o4, o5, o6, ef⟩ := six_out (st := st) g (List.range 6) [] none none none (fun x hx => List.mem_range.mp hx) (by decide) okS_none okS_none okS_none
  refine q_for0 (w_rangeN (n := 6) (e_cons0 e_con e_nil) (by decide)) (pures_ns _) ef ?_
  have al := accs_len (G := G) (List.range 6) []
  have al6 : (accs G (List.range 6) []).length ≤ 18 := al
  exact fin_eq (by omega) ig (fun M hM => ringed_acc (acc_v g hM)) (six_iff g)
end LW

end

section
open PySem PySem.Spec PyProof.Rows L2 Ev
namespace LW
theorem all_mk {P : Program} {w : World} {K : PySem.W.Frag} {h : Heap} {mg : Str → Option Value} {fa : Addr} (X : K.In h) (G : h.Ns mainGlobals mg) (hfa : mg "law" = some (.ref fa))
    {od__law_taken an__law_taken : Option Addr} {sl__law_taken : Array (Option Value)} {oc__law_taken kV__law_taken dc__law_taken pm__law_taken cd__law_taken ct__law_taken : Value} {ad__law_taken : Addr}
    {od__law_pairs an__law_pairs : Option Addr} {sl__law_pairs : Array (Option Value)} {oc__law_pairs kV__law_pairs dc__law_pairs pm__law_pairs cd__law_pairs ct__law_pairs : Value} {ad__law_pairs : Addr}
    {od__law_hall an__law_hall : Option Addr} {sl__law_hall : Array (Option Value)} {oc__law_hall kV__law_hall dc__law_hall pm__law_hall cd__law_hall ct__law_hall : Value} {ad__law_hall : Addr}
    {od_is_integer an_is_integer : Option Addr} {sl_is_integer : Array (Option Value)} {oc_is_integer kV_is_integer dc_is_integer pm_is_integer cd_is_integer ct_is_integer : Value} {ad_is_integer : Addr}
    {od_is_from an_is_from : Option Addr} {sl_is_from : Array (Option Value)} {oc_is_from kV_is_from dc_is_from pm_is_from cd_is_from ct_is_from : Value} {ad_is_from : Addr}
    {od_is_pair_of an_is_pair_of : Option Addr} {sl_is_pair_of : Array (Option Value)} {oc_is_pair_of kV_is_pair_of dc_is_pair_of pm_is_pair_of cd_is_pair_of ct_is_pair_of : Value} {ad_is_pair_of : Addr}
    {od_is_hall an_is_hall : Option Addr} {sl_is_hall : Array (Option Value)} {oc_is_hall kV_is_hall dc_is_hall pm_is_hall cd_is_hall ct_is_hall : Value} {ad_is_hall : Addr}
    {od_need_hall an_need_hall : Option Addr} {sl_need_hall : Array (Option Value)} {oc_need_hall kV_need_hall dc_need_hall pm_need_hall cd_need_hall ct_need_hall : Value} {ad_need_hall : Addr}
    {od_are_pair an_are_pair : Option Addr} {sl_are_pair : Array (Option Value)} {oc_are_pair kV_are_pair dc_are_pair pm_are_pair cd_are_pair ct_are_pair : Value} {ad_are_pair : Addr}
    {od_friends_of an_friends_of : Option Addr} {sl_friends_of : Array (Option Value)} {oc_friends_of kV_friends_of dc_friends_of pm_friends_of cd_friends_of ct_friends_of : Value} {ad_friends_of : Addr}
    {od_step_for an_step_for : Option Addr} {sl_step_for : Array (Option Value)} {oc_step_for kV_step_for dc_step_for pm_step_for cd_step_for ct_step_for : Value} {ad_step_for : Addr}
    {od_steps_of an_steps_of : Option Addr} {sl_steps_of : Array (Option Value)} {oc_steps_of kV_steps_of dc_steps_of pm_steps_of cd_steps_of ct_steps_of : Value} {ad_steps_of : Addr}
    {od_is_grown an_is_grown : Option Addr} {sl_is_grown : Array (Option Value)} {oc_is_grown kV_is_grown dc_is_grown pm_is_grown cd_is_grown ct_is_grown : Value} {ad_is_grown : Addr}
    {od__law_is an__law_is : Option Addr} {sl__law_is : Array (Option Value)} {oc__law_is kV__law_is dc__law_is pm__law_is cd__law_is ct__law_is : Value} {ad__law_is : Addr}
    {od__law_friends an__law_friends : Option Addr} {sl__law_friends : Array (Option Value)} {oc__law_friends kV__law_friends dc__law_friends pm__law_friends cd__law_friends ct__law_friends : Value} {ad__law_friends : Addr}
    {od__law_turn an__law_turn : Option Addr} {sl__law_turn : Array (Option Value)} {oc__law_turn kV__law_turn dc__law_turn pm__law_turn cd__law_turn ct__law_turn : Value} {ad__law_turn : Addr}
    {od__law_class an__law_class : Option Addr} {sl__law_class : Array (Option Value)} {oc__law_class kV__law_class dc__law_class pm__law_class cd__law_class ct__law_class : Value} {ad__law_class : Addr}
    {od__law_ring an__law_ring : Option Addr} {sl__law_ring : Array (Option Value)} {oc__law_ring kV__law_ring dc__law_ring pm__law_ring cd__law_ring ct__law_ring : Value} {ad__law_ring : Addr}
    {od__law_ringed an__law_ringed : Option Addr} {sl__law_ringed : Array (Option Value)} {oc__law_ringed kV__law_ringed dc__law_ringed pm__law_ringed cd__law_ringed ct__law_ringed : Value} {ad__law_ringed : Addr}
    {od_need_person an_need_person : Option Addr} {sl_need_person : Array (Option Value)} {oc_need_person kV_need_person dc_need_person pm_need_person cd_need_person ct_need_person : Value} {ad_need_person : Addr}
    {od_need_leaving an_need_leaving : Option Addr} {sl_need_leaving : Array (Option Value)} {oc_need_leaving kV_need_leaving dc_need_leaving pm_need_leaving cd_need_leaving ct_need_leaving : Value} {ad_need_leaving : Addr}
    {od_behind_turn an_behind_turn : Option Addr} {sl_behind_turn : Array (Option Value)} {oc_behind_turn kV_behind_turn dc_behind_turn pm_behind_turn cd_behind_turn ct_behind_turn : Value} {ad_behind_turn : Addr}
    {od_behind_turns an_behind_turns : Option Addr} {sl_behind_turns : Array (Option Value)} {oc_behind_turns kV_behind_turns dc_behind_turns pm_behind_turns cd_behind_turns ct_behind_turns : Value} {ad_behind_turns : Addr}
    {od_without an_without : Option Addr} {sl_without : Array (Option Value)} {oc_without kV_without dc_without pm_without cd_without ct_without : Value} {ad_without : Addr}
    {od_behind_leaving an_behind_leaving : Option Addr} {sl_behind_leaving : Array (Option Value)} {oc_behind_leaving kV_behind_leaving dc_behind_leaving pm_behind_leaving cd_behind_leaving ct_behind_leaving : Value} {ad_behind_leaving : Addr}
    {od_left an_left : Option Addr} {sl_left : Array (Option Value)} {oc_left kV_left dc_left pm_left cd_left ct_left : Value} {ad_left : Addr}
    {od_law an_law : Option Addr} {sl_law : Array (Option Value)} {oc_law kV_law dc_law pm_law cd_law ct_law : Value} {ad_law : Addr}
    {t_LOOKS : Tok}
    {t_MOST_PEOPLE : Tok}
    (a__law_taken : PySem.W.nsIn K mainGlobals "_law_taken" = some (some (.ref ad__law_taken))) (l__law_taken : K.lookup ad__law_taken = some ⟨oc__law_taken, od__law_taken, .func (PySem.W.fnOf "_law_taken" "_law_taken" (defArgs s__law_taken) (defBody s__law_taken) (defScope s__law_taken) .none kV__law_taken dc__law_taken pm__law_taken an__law_taken cd__law_taken ct__law_taken), sl__law_taken⟩) (c__law_taken : PySem.W.codeIn K cd__law_taken "_law_taken" = true) (k__law_taken : PySem.W.keepIn K (.ref ad__law_taken) = true)
    (a__law_pairs : PySem.W.nsIn K mainGlobals "_law_pairs" = some (some (.ref ad__law_pairs))) (l__law_pairs : K.lookup ad__law_pairs = some ⟨oc__law_pairs, od__law_pairs, .func (PySem.W.fnOf "_law_pairs" "_law_pairs" (defArgs s__law_pairs) (defBody s__law_pairs) (defScope s__law_pairs) .none kV__law_pairs dc__law_pairs pm__law_pairs an__law_pairs cd__law_pairs ct__law_pairs), sl__law_pairs⟩) (c__law_pairs : PySem.W.codeIn K cd__law_pairs "_law_pairs" = true) (k__law_pairs : PySem.W.keepIn K (.ref ad__law_pairs) = true)
    (a__law_hall : PySem.W.nsIn K mainGlobals "_law_hall" = some (some (.ref ad__law_hall))) (l__law_hall : K.lookup ad__law_hall = some ⟨oc__law_hall, od__law_hall, .func (PySem.W.fnOf "_law_hall" "_law_hall" (defArgs s__law_hall) (defBody s__law_hall) (defScope s__law_hall) .none kV__law_hall dc__law_hall pm__law_hall an__law_hall cd__law_hall ct__law_hall), sl__law_hall⟩) (c__law_hall : PySem.W.codeIn K cd__law_hall "_law_hall" = true) (k__law_hall : PySem.W.keepIn K (.ref ad__law_hall) = true)
    (a_is_integer : PySem.W.nsIn K mainGlobals "is_integer" = some (some (.ref ad_is_integer))) (l_is_integer : K.lookup ad_is_integer = some ⟨oc_is_integer, od_is_integer, .func (PySem.W.fnOf "is_integer" "is_integer" (defArgs s_is_integer) (defBody s_is_integer) (defScope s_is_integer) .none kV_is_integer dc_is_integer pm_is_integer an_is_integer cd_is_integer ct_is_integer), sl_is_integer⟩) (c_is_integer : PySem.W.codeIn K cd_is_integer "is_integer" = true) (k_is_integer : PySem.W.keepIn K (.ref ad_is_integer) = true)
    (a_is_from : PySem.W.nsIn K mainGlobals "is_from" = some (some (.ref ad_is_from))) (l_is_from : K.lookup ad_is_from = some ⟨oc_is_from, od_is_from, .func (PySem.W.fnOf "is_from" "is_from" (defArgs s_is_from) (defBody s_is_from) (defScope s_is_from) .none kV_is_from dc_is_from pm_is_from an_is_from cd_is_from ct_is_from), sl_is_from⟩) (c_is_from : PySem.W.codeIn K cd_is_from "is_from" = true) (k_is_from : PySem.W.keepIn K (.ref ad_is_from) = true)
    (a_is_pair_of : PySem.W.nsIn K mainGlobals "is_pair_of" = some (some (.ref ad_is_pair_of))) (l_is_pair_of : K.lookup ad_is_pair_of = some ⟨oc_is_pair_of, od_is_pair_of, .func (PySem.W.fnOf "is_pair_of" "is_pair_of" (defArgs s_is_pair_of) (defBody s_is_pair_of) (defScope s_is_pair_of) .none kV_is_pair_of dc_is_pair_of pm_is_pair_of an_is_pair_of cd_is_pair_of ct_is_pair_of), sl_is_pair_of⟩) (c_is_pair_of : PySem.W.codeIn K cd_is_pair_of "is_pair_of" = true) (k_is_pair_of : PySem.W.keepIn K (.ref ad_is_pair_of) = true)
    (a_is_hall : PySem.W.nsIn K mainGlobals "is_hall" = some (some (.ref ad_is_hall))) (l_is_hall : K.lookup ad_is_hall = some ⟨oc_is_hall, od_is_hall, .func (PySem.W.fnOf "is_hall" "is_hall" (defArgs s_is_hall) (defBody s_is_hall) (defScope s_is_hall) .none kV_is_hall dc_is_hall pm_is_hall an_is_hall cd_is_hall ct_is_hall), sl_is_hall⟩) (c_is_hall : PySem.W.codeIn K cd_is_hall "is_hall" = true) (k_is_hall : PySem.W.keepIn K (.ref ad_is_hall) = true)
    (a_need_hall : PySem.W.nsIn K mainGlobals "need_hall" = some (some (.ref ad_need_hall))) (l_need_hall : K.lookup ad_need_hall = some ⟨oc_need_hall, od_need_hall, .func (PySem.W.fnOf "need_hall" "need_hall" (defArgs s_need_hall) (defBody s_need_hall) (defScope s_need_hall) .none kV_need_hall dc_need_hall pm_need_hall an_need_hall cd_need_hall ct_need_hall), sl_need_hall⟩) (c_need_hall : PySem.W.codeIn K cd_need_hall "need_hall" = true) (k_need_hall : PySem.W.keepIn K (.ref ad_need_hall) = true)
    (a_are_pair : PySem.W.nsIn K mainGlobals "are_pair" = some (some (.ref ad_are_pair))) (l_are_pair : K.lookup ad_are_pair = some ⟨oc_are_pair, od_are_pair, .func (PySem.W.fnOf "are_pair" "are_pair" (defArgs s_are_pair) (defBody s_are_pair) (defScope s_are_pair) .none kV_are_pair dc_are_pair pm_are_pair an_are_pair cd_are_pair ct_are_pair), sl_are_pair⟩) (c_are_pair : PySem.W.codeIn K cd_are_pair "are_pair" = true) (k_are_pair : PySem.W.keepIn K (.ref ad_are_pair) = true)
    (a_friends_of : PySem.W.nsIn K mainGlobals "friends_of" = some (some (.ref ad_friends_of))) (l_friends_of : K.lookup ad_friends_of = some ⟨oc_friends_of, od_friends_of, .func (PySem.W.fnOf "friends_of" "friends_of" (defArgs s_friends_of) (defBody s_friends_of) (defScope s_friends_of) .none kV_friends_of dc_friends_of pm_friends_of an_friends_of cd_friends_of ct_friends_of), sl_friends_of⟩) (c_friends_of : PySem.W.codeIn K cd_friends_of "friends_of" = true) (k_friends_of : PySem.W.keepIn K (.ref ad_friends_of) = true)
    (a_step_for : PySem.W.nsIn K mainGlobals "step_for" = some (some (.ref ad_step_for))) (l_step_for : K.lookup ad_step_for = some ⟨oc_step_for, od_step_for, .func (PySem.W.fnOf "step_for" "step_for" (defArgs s_step_for) (defBody s_step_for) (defScope s_step_for) .none kV_step_for dc_step_for pm_step_for an_step_for cd_step_for ct_step_for), sl_step_for⟩) (c_step_for : PySem.W.codeIn K cd_step_for "step_for" = true) (k_step_for : PySem.W.keepIn K (.ref ad_step_for) = true)
    (a_steps_of : PySem.W.nsIn K mainGlobals "steps_of" = some (some (.ref ad_steps_of))) (l_steps_of : K.lookup ad_steps_of = some ⟨oc_steps_of, od_steps_of, .func (PySem.W.fnOf "steps_of" "steps_of" (defArgs s_steps_of) (defBody s_steps_of) (defScope s_steps_of) .none kV_steps_of dc_steps_of pm_steps_of an_steps_of cd_steps_of ct_steps_of), sl_steps_of⟩) (c_steps_of : PySem.W.codeIn K cd_steps_of "steps_of" = true) (k_steps_of : PySem.W.keepIn K (.ref ad_steps_of) = true)
    (a_is_grown : PySem.W.nsIn K mainGlobals "is_grown" = some (some (.ref ad_is_grown))) (l_is_grown : K.lookup ad_is_grown = some ⟨oc_is_grown, od_is_grown, .func (PySem.W.fnOf "is_grown" "is_grown" (defArgs s_is_grown) (defBody s_is_grown) (defScope s_is_grown) .none kV_is_grown dc_is_grown pm_is_grown an_is_grown cd_is_grown ct_is_grown), sl_is_grown⟩) (c_is_grown : PySem.W.codeIn K cd_is_grown "is_grown" = true) (k_is_grown : PySem.W.keepIn K (.ref ad_is_grown) = true)
    (a__law_is : PySem.W.nsIn K mainGlobals "_law_is" = some (some (.ref ad__law_is))) (l__law_is : K.lookup ad__law_is = some ⟨oc__law_is, od__law_is, .func (PySem.W.fnOf "_law_is" "_law_is" (defArgs s__law_is) (defBody s__law_is) (defScope s__law_is) .none kV__law_is dc__law_is pm__law_is an__law_is cd__law_is ct__law_is), sl__law_is⟩) (c__law_is : PySem.W.codeIn K cd__law_is "_law_is" = true) (k__law_is : PySem.W.keepIn K (.ref ad__law_is) = true)
    (a__law_friends : PySem.W.nsIn K mainGlobals "_law_friends" = some (some (.ref ad__law_friends))) (l__law_friends : K.lookup ad__law_friends = some ⟨oc__law_friends, od__law_friends, .func (PySem.W.fnOf "_law_friends" "_law_friends" (defArgs s__law_friends) (defBody s__law_friends) (defScope s__law_friends) .none kV__law_friends dc__law_friends pm__law_friends an__law_friends cd__law_friends ct__law_friends), sl__law_friends⟩) (c__law_friends : PySem.W.codeIn K cd__law_friends "_law_friends" = true) (k__law_friends : PySem.W.keepIn K (.ref ad__law_friends) = true)
    (a__law_turn : PySem.W.nsIn K mainGlobals "_law_turn" = some (some (.ref ad__law_turn))) (l__law_turn : K.lookup ad__law_turn = some ⟨oc__law_turn, od__law_turn, .func (PySem.W.fnOf "_law_turn" "_law_turn" (defArgs s__law_turn) (defBody s__law_turn) (defScope s__law_turn) .none kV__law_turn dc__law_turn pm__law_turn an__law_turn cd__law_turn ct__law_turn), sl__law_turn⟩) (c__law_turn : PySem.W.codeIn K cd__law_turn "_law_turn" = true) (k__law_turn : PySem.W.keepIn K (.ref ad__law_turn) = true)
    (a__law_class : PySem.W.nsIn K mainGlobals "_law_class" = some (some (.ref ad__law_class))) (l__law_class : K.lookup ad__law_class = some ⟨oc__law_class, od__law_class, .func (PySem.W.fnOf "_law_class" "_law_class" (defArgs s__law_class) (defBody s__law_class) (defScope s__law_class) .none kV__law_class dc__law_class pm__law_class an__law_class cd__law_class ct__law_class), sl__law_class⟩) (c__law_class : PySem.W.codeIn K cd__law_class "_law_class" = true) (k__law_class : PySem.W.keepIn K (.ref ad__law_class) = true)
    (a__law_ring : PySem.W.nsIn K mainGlobals "_law_ring" = some (some (.ref ad__law_ring))) (l__law_ring : K.lookup ad__law_ring = some ⟨oc__law_ring, od__law_ring, .func (PySem.W.fnOf "_law_ring" "_law_ring" (defArgs s__law_ring) (defBody s__law_ring) (defScope s__law_ring) .none kV__law_ring dc__law_ring pm__law_ring an__law_ring cd__law_ring ct__law_ring), sl__law_ring⟩) (c__law_ring : PySem.W.codeIn K cd__law_ring "_law_ring" = true) (k__law_ring : PySem.W.keepIn K (.ref ad__law_ring) = true)
    (a__law_ringed : PySem.W.nsIn K mainGlobals "_law_ringed" = some (some (.ref ad__law_ringed))) (l__law_ringed : K.lookup ad__law_ringed = some ⟨oc__law_ringed, od__law_ringed, .func (PySem.W.fnOf "_law_ringed" "_law_ringed" (defArgs s__law_ringed) (defBody s__law_ringed) (defScope s__law_ringed) .none kV__law_ringed dc__law_ringed pm__law_ringed an__law_ringed cd__law_ringed ct__law_ringed), sl__law_ringed⟩) (c__law_ringed : PySem.W.codeIn K cd__law_ringed "_law_ringed" = true) (k__law_ringed : PySem.W.keepIn K (.ref ad__law_ringed) = true)
    (a_need_person : PySem.W.nsIn K mainGlobals "need_person" = some (some (.ref ad_need_person))) (l_need_person : K.lookup ad_need_person = some ⟨oc_need_person, od_need_person, .func (PySem.W.fnOf "need_person" "need_person" (defArgs s_need_person) (defBody s_need_person) (defScope s_need_person) .none kV_need_person dc_need_person pm_need_person an_need_person cd_need_person ct_need_person), sl_need_person⟩) (c_need_person : PySem.W.codeIn K cd_need_person "need_person" = true) (k_need_person : PySem.W.keepIn K (.ref ad_need_person) = true)
    (a_need_leaving : PySem.W.nsIn K mainGlobals "need_leaving" = some (some (.ref ad_need_leaving))) (l_need_leaving : K.lookup ad_need_leaving = some ⟨oc_need_leaving, od_need_leaving, .func (PySem.W.fnOf "need_leaving" "need_leaving" (defArgs s_need_leaving) (defBody s_need_leaving) (defScope s_need_leaving) .none kV_need_leaving dc_need_leaving pm_need_leaving an_need_leaving cd_need_leaving ct_need_leaving), sl_need_leaving⟩) (c_need_leaving : PySem.W.codeIn K cd_need_leaving "need_leaving" = true) (k_need_leaving : PySem.W.keepIn K (.ref ad_need_leaving) = true)
    (a_behind_turn : PySem.W.nsIn K mainGlobals "behind_turn" = some (some (.ref ad_behind_turn))) (l_behind_turn : K.lookup ad_behind_turn = some ⟨oc_behind_turn, od_behind_turn, .func (PySem.W.fnOf "behind_turn" "behind_turn" (defArgs s_behind_turn) (defBody s_behind_turn) (defScope s_behind_turn) .none kV_behind_turn dc_behind_turn pm_behind_turn an_behind_turn cd_behind_turn ct_behind_turn), sl_behind_turn⟩) (c_behind_turn : PySem.W.codeIn K cd_behind_turn "behind_turn" = true) (k_behind_turn : PySem.W.keepIn K (.ref ad_behind_turn) = true)
    (a_behind_turns : PySem.W.nsIn K mainGlobals "behind_turns" = some (some (.ref ad_behind_turns))) (l_behind_turns : K.lookup ad_behind_turns = some ⟨oc_behind_turns, od_behind_turns, .func (PySem.W.fnOf "behind_turns" "behind_turns" (defArgs s_behind_turns) (defBody s_behind_turns) (defScope s_behind_turns) .none kV_behind_turns dc_behind_turns pm_behind_turns an_behind_turns cd_behind_turns ct_behind_turns), sl_behind_turns⟩) (c_behind_turns : PySem.W.codeIn K cd_behind_turns "behind_turns" = true) (k_behind_turns : PySem.W.keepIn K (.ref ad_behind_turns) = true)
    (a_without : PySem.W.nsIn K mainGlobals "without" = some (some (.ref ad_without))) (l_without : K.lookup ad_without = some ⟨oc_without, od_without, .func (PySem.W.fnOf "without" "without" (defArgs s_without) (defBody s_without) (defScope s_without) .none kV_without dc_without pm_without an_without cd_without ct_without), sl_without⟩) (c_without : PySem.W.codeIn K cd_without "without" = true) (k_without : PySem.W.keepIn K (.ref ad_without) = true)
    (a_behind_leaving : PySem.W.nsIn K mainGlobals "behind_leaving" = some (some (.ref ad_behind_leaving))) (l_behind_leaving : K.lookup ad_behind_leaving = some ⟨oc_behind_leaving, od_behind_leaving, .func (PySem.W.fnOf "behind_leaving" "behind_leaving" (defArgs s_behind_leaving) (defBody s_behind_leaving) (defScope s_behind_leaving) .none kV_behind_leaving dc_behind_leaving pm_behind_leaving an_behind_leaving cd_behind_leaving ct_behind_leaving), sl_behind_leaving⟩) (c_behind_leaving : PySem.W.codeIn K cd_behind_leaving "behind_leaving" = true) (k_behind_leaving : PySem.W.keepIn K (.ref ad_behind_leaving) = true)
    (a_left : PySem.W.nsIn K mainGlobals "left" = some (some (.ref ad_left))) (l_left : K.lookup ad_left = some ⟨oc_left, od_left, .func (PySem.W.fnOf "left" "left" (defArgs s_left) (defBody s_left) (defScope s_left) .none kV_left dc_left pm_left an_left cd_left ct_left), sl_left⟩) (c_left : PySem.W.codeIn K cd_left "left" = true) (k_left : PySem.W.keepIn K (.ref ad_left) = true)
    (a_law : PySem.W.nsIn K mainGlobals "law" = some (some (.ref ad_law))) (l_law : K.lookup ad_law = some ⟨oc_law, od_law, .func (PySem.W.fnOf "law" "law" (defArgs s_law) (defBody s_law) (defScope s_law) .none kV_law dc_law pm_law an_law cd_law ct_law), sl_law⟩) (c_law : PySem.W.codeIn K cd_law "law" = true) (k_law : PySem.W.keepIn K (.ref ad_law) = true)
    (b_all : PySem.W.nsIn K mainGlobals "all" = some none)
    (b_bool : PySem.W.nsIn K mainGlobals "bool" = some none)
    (b_int : PySem.W.nsIn K mainGlobals "int" = some none)
    (b_isinstance : PySem.W.nsIn K mainGlobals "isinstance" = some none)
    (b_len : PySem.W.nsIn K mainGlobals "len" = some none)
    (b_list : PySem.W.nsIn K mainGlobals "list" = some none)
    (b_max : PySem.W.nsIn K mainGlobals "max" = some none)
    (b_min : PySem.W.nsIn K mainGlobals "min" = some none)
    (b_range : PySem.W.nsIn K mainGlobals "range" = some none)
    (b_reversed : PySem.W.nsIn K mainGlobals "reversed" = some none)
    (b_sorted : PySem.W.nsIn K mainGlobals "sorted" = some none)
    (b_str : PySem.W.nsIn K mainGlobals "str" = some none)
    (b_tuple : PySem.W.nsIn K mainGlobals "tuple" = some none)
    (b_zip : PySem.W.nsIn K mainGlobals "zip" = some none)
    (c_LOOKS : PySem.W.nsIn K mainGlobals "LOOKS" = some (some (.str "XYZ" t_LOOKS)))
    (c_MOST_PEOPLE : PySem.W.nsIn K mainGlobals "MOST_PEOPLE" = some (some (.int 8 t_MOST_PEOPLE))) :
    ∃ fd : FuncData, (∀ (s : Shared) (v : Value), BindsTo s fd ⟨[v], []⟩ [("_law_script", v)]) ∧ ∀ base : Heap, K.In base → base.Ns mainGlobals mg → FnOk P w K mg base (L2.CX P w) 8 fa fd ["_law_script"] (Ev.spLaw K (okL 63)) := by
  have e := hfa.symm.trans (PySem.W.mg_of X G a_law)
  cases e
  have T : Txt K mg := ⟨PySem.W.mg_none_of X G b_all, PySem.W.mg_none_of X G b_bool, PySem.W.mg_none_of X G b_int, PySem.W.mg_none_of X G b_isinstance, PySem.W.mg_none_of X G b_len, PySem.W.mg_none_of X G b_list, PySem.W.mg_none_of X G b_max, PySem.W.mg_none_of X G b_min, PySem.W.mg_none_of X G b_range, PySem.W.mg_none_of X G b_reversed, PySem.W.mg_none_of X G b_sorted, PySem.W.mg_none_of X G b_str, PySem.W.mg_none_of X G b_tuple, PySem.W.mg_none_of X G b_zip, ⟨_, PySem.W.mg_of X G c_LOOKS⟩, ⟨_, PySem.W.mg_of X G c_MOST_PEOPLE⟩⟩
  have D__law_taken : DefAt K mg "_law_taken" s__law_taken := ⟨⟨_, _, fun_mk (st := s__law_taken) l__law_taken c__law_taken k__law_taken, PySem.W.mg_of X G a__law_taken⟩⟩
  have D__law_pairs : DefAt K mg "_law_pairs" s__law_pairs := ⟨⟨_, _, fun_mk (st := s__law_pairs) l__law_pairs c__law_pairs k__law_pairs, PySem.W.mg_of X G a__law_pairs⟩⟩
  have D__law_hall : DefAt K mg "_law_hall" s__law_hall := ⟨⟨_, _, fun_mk (st := s__law_hall) l__law_hall c__law_hall k__law_hall, PySem.W.mg_of X G a__law_hall⟩⟩
  have D_is_integer : DefAt K mg "is_integer" s_is_integer := ⟨⟨_, _, fun_mk (st := s_is_integer) l_is_integer c_is_integer k_is_integer, PySem.W.mg_of X G a_is_integer⟩⟩
  have D_is_from : DefAt K mg "is_from" s_is_from := ⟨⟨_, _, fun_mk (st := s_is_from) l_is_from c_is_from k_is_from, PySem.W.mg_of X G a_is_from⟩⟩
  have D_is_pair_of : DefAt K mg "is_pair_of" s_is_pair_of := ⟨⟨_, _, fun_mk (st := s_is_pair_of) l_is_pair_of c_is_pair_of k_is_pair_of, PySem.W.mg_of X G a_is_pair_of⟩⟩
  have D_is_hall : DefAt K mg "is_hall" s_is_hall := ⟨⟨_, _, fun_mk (st := s_is_hall) l_is_hall c_is_hall k_is_hall, PySem.W.mg_of X G a_is_hall⟩⟩
  have D_need_hall : DefAt K mg "need_hall" s_need_hall := ⟨⟨_, _, fun_mk (st := s_need_hall) l_need_hall c_need_hall k_need_hall, PySem.W.mg_of X G a_need_hall⟩⟩
  have D_are_pair : DefAt K mg "are_pair" s_are_pair := ⟨⟨_, _, fun_mk (st := s_are_pair) l_are_pair c_are_pair k_are_pair, PySem.W.mg_of X G a_are_pair⟩⟩
  have D_friends_of : DefAt K mg "friends_of" s_friends_of := ⟨⟨_, _, fun_mk (st := s_friends_of) l_friends_of c_friends_of k_friends_of, PySem.W.mg_of X G a_friends_of⟩⟩
  have D_step_for : DefAt K mg "step_for" s_step_for := ⟨⟨_, _, fun_mk (st := s_step_for) l_step_for c_step_for k_step_for, PySem.W.mg_of X G a_step_for⟩⟩
  have D_steps_of : DefAt K mg "steps_of" s_steps_of := ⟨⟨_, _, fun_mk (st := s_steps_of) l_steps_of c_steps_of k_steps_of, PySem.W.mg_of X G a_steps_of⟩⟩
  have D_is_grown : DefAt K mg "is_grown" s_is_grown := ⟨⟨_, _, fun_mk (st := s_is_grown) l_is_grown c_is_grown k_is_grown, PySem.W.mg_of X G a_is_grown⟩⟩
  have D__law_is : DefAt K mg "_law_is" s__law_is := ⟨⟨_, _, fun_mk (st := s__law_is) l__law_is c__law_is k__law_is, PySem.W.mg_of X G a__law_is⟩⟩
  have D__law_friends : DefAt K mg "_law_friends" s__law_friends := ⟨⟨_, _, fun_mk (st := s__law_friends) l__law_friends c__law_friends k__law_friends, PySem.W.mg_of X G a__law_friends⟩⟩
  have D__law_turn : DefAt K mg "_law_turn" s__law_turn := ⟨⟨_, _, fun_mk (st := s__law_turn) l__law_turn c__law_turn k__law_turn, PySem.W.mg_of X G a__law_turn⟩⟩
  have D__law_class : DefAt K mg "_law_class" s__law_class := ⟨⟨_, _, fun_mk (st := s__law_class) l__law_class c__law_class k__law_class, PySem.W.mg_of X G a__law_class⟩⟩
  have D__law_ring : DefAt K mg "_law_ring" s__law_ring := ⟨⟨_, _, fun_mk (st := s__law_ring) l__law_ring c__law_ring k__law_ring, PySem.W.mg_of X G a__law_ring⟩⟩
  have D__law_ringed : DefAt K mg "_law_ringed" s__law_ringed := ⟨⟨_, _, fun_mk (st := s__law_ringed) l__law_ringed c__law_ringed k__law_ringed, PySem.W.mg_of X G a__law_ringed⟩⟩
  have D_need_person : DefAt K mg "need_person" s_need_person := ⟨⟨_, _, fun_mk (st := s_need_person) l_need_person c_need_person k_need_person, PySem.W.mg_of X G a_need_person⟩⟩
  have D_need_leaving : DefAt K mg "need_leaving" s_need_leaving := ⟨⟨_, _, fun_mk (st := s_need_leaving) l_need_leaving c_need_leaving k_need_leaving, PySem.W.mg_of X G a_need_leaving⟩⟩
  have D_behind_turn : DefAt K mg "behind_turn" s_behind_turn := ⟨⟨_, _, fun_mk (st := s_behind_turn) l_behind_turn c_behind_turn k_behind_turn, PySem.W.mg_of X G a_behind_turn⟩⟩
  have D_behind_turns : DefAt K mg "behind_turns" s_behind_turns := ⟨⟨_, _, fun_mk (st := s_behind_turns) l_behind_turns c_behind_turns k_behind_turns, PySem.W.mg_of X G a_behind_turns⟩⟩
  have D_without : DefAt K mg "without" s_without := ⟨⟨_, _, fun_mk (st := s_without) l_without c_without k_without, PySem.W.mg_of X G a_without⟩⟩
  have D_behind_leaving : DefAt K mg "behind_leaving" s_behind_leaving := ⟨⟨_, _, fun_mk (st := s_behind_leaving) l_behind_leaving c_behind_leaving k_behind_leaving, PySem.W.mg_of X G a_behind_leaving⟩⟩
  have D_left : DefAt K mg "left" s_left := ⟨⟨_, _, fun_mk (st := s_left) l_left c_left k_left, PySem.W.mg_of X G a_left⟩⟩
  refine ⟨PySem.W.fnOf "law" "law" (defArgs s_law) (defBody s_law) (defScope s_law) .none kV_law dc_law pm_law an_law cd_law ct_law, fun s v => .of_eq rfl, fun base _ _ => ?_⟩
  have G__law_taken : FnD P w K mg base [] 1 "_law_taken" 2 f__law_taken := ok__law_taken T D__law_taken
  have G__law_pairs : FnD P w K mg base [] 1 "_law_pairs" 1 f__law_pairs := ok__law_pairs T D__law_pairs
  have G__law_hall : FnD P w K mg base [] 2 "_law_hall" 2 f__law_hall := ok__law_hall T D__law_hall G__law_taken G__law_pairs
  have G_is_integer : FnD P w K mg base [] 1 "is_integer" 1 f_is_integer := ok_is_integer T D_is_integer
  have G_is_from : FnD P w K mg base [] 2 "is_from" 3 f_is_from := ok_is_from T D_is_from G_is_integer
  have G_is_pair_of : FnD P w K mg base [] 3 "is_pair_of" 2 f_is_pair_of := ok_is_pair_of T D_is_pair_of G_is_from
  have G_is_hall : FnD P w K mg base [] 4 "is_hall" 1 f_is_hall := ok_is_hall T D_is_hall G_is_from G_is_pair_of
  have G_need_hall : FnD P w K mg base [] 5 "need_hall" 1 f_need_hall := ok_need_hall T D_need_hall G_is_hall
  have G_are_pair : FnD P w K mg base [] 1 "are_pair" 3 f_are_pair := ok_are_pair T D_are_pair
  have G_friends_of : FnD P w K mg base [] 2 "friends_of" 2 f_friends_of := ok_friends_of T D_friends_of G_are_pair
  have G_step_for : FnD P w K mg base [] 3 "step_for" 3 f_step_for := ok_step_for T D_step_for G_friends_of
  have G_steps_of : FnD P w K mg base [] 4 "steps_of" 1 f_steps_of := ok_steps_of T D_steps_of G_step_for
  have G_is_grown : FnD P w K mg base [] 6 "is_grown" 1 f_is_grown := ok_is_grown T D_is_grown G_need_hall G_steps_of
  have G__law_is : FnD P w K mg base [] 1 "_law_is" 2 f__law_is := ok__law_is T D__law_is
  have G__law_friends : FnD P w K mg base [] 1 "_law_friends" 2 f__law_friends := ok__law_friends T D__law_friends
  have G__law_turn : FnD P w K mg base [] 2 "_law_turn" 2 f__law_turn := ok__law_turn T D__law_turn G__law_friends G__law_pairs
  have G__law_class : FnD P w K mg base [] 3 "_law_class" 1 f__law_class := ok__law_class T D__law_class G__law_turn
  have G__law_ring : FnD P w K mg base [] 2 "_law_ring" 1 f__law_ring := ok__law_ring T D__law_ring G__law_friends
  have G__law_ringed : FnD P w K mg base [] 4 "_law_ringed" 1 f__law_ringed := ok__law_ringed T D__law_ringed G__law_class G__law_ring
  have G_need_person : FnD P w K mg base [] 3 "need_person" 2 f_need_person := ok_need_person T D_need_person G_is_from
  have G_need_leaving : FnD P w K mg base [] 6 "need_leaving" 2 f_need_leaving := ok_need_leaving T D_need_leaving G_need_hall G_need_person
  have G_behind_turn : FnD P w K mg base [] 3 "behind_turn" 2 f_behind_turn := ok_behind_turn T D_behind_turn G_friends_of
  have G_behind_turns : FnD P w K mg base [] 4 "behind_turns" 2 f_behind_turns := ok_behind_turns T D_behind_turns G_behind_turn
  have G_without : FnD P w K mg base [] 1 "without" 2 f_without := ok_without T D_without
  have G_behind_leaving : FnD P w K mg base [] 5 "behind_leaving" 3 f_behind_leaving := ok_behind_leaving T D_behind_leaving G_friends_of G_behind_turn G_behind_turns G_without
  have G_left : FnD P w K mg base [] 7 "left" 3 f_left := ok_left T D_left G_need_leaving G_behind_leaving
  exact ok_law T (fun_mk (st := s_law) l_law c_law k_law) G__law_hall G__law_taken G_is_grown G__law_is G__law_ringed G_left law_true
end LW
end
open PySem PySem.W PyProof.Rows
set_option maxRecDepth 100000 in
set_option maxHeartbeats 0 in
theorem PySem.Challenge.cw_turnfriends_k32_known_ring_of_five_holds : PySem.Challenge.rw_turnfriends_k32_known_ring_of_five.Holds := by
  w_on; o_law; k_head; (case hw => w_witness2)
  k_fill
  refine Ev.walk_ev (n := 63) (k := 8) (x := "_law_script") (l := PySem.Challenge.rw_turnfriends_k32_known_ring_of_five) rfl (by decide) rfl ⟨rfl, by decide, by decide⟩ (fun w h Y => PySem.W.kIn_of Y) ?F
  case F =>
    intro w mg fa h KX G hmg
    refine' LW.all_mk KX G hmg ?a__law_taken ?l__law_taken ?c__law_taken ?k__law_taken ?a__law_pairs ?l__law_pairs ?c__law_pairs ?k__law_pairs ?a__law_hall ?l__law_hall ?c__law_hall ?k__law_hall ?a_is_integer ?l_is_integer ?c_is_integer ?k_is_integer ?a_is_from ?l_is_from ?c_is_from ?k_is_from ?a_is_pair_of ?l_is_pair_of ?c_is_pair_of ?k_is_pair_of ?a_is_hall ?l_is_hall ?c_is_hall ?k_is_hall ?a_need_hall ?l_need_hall ?c_need_hall ?k_need_hall ?a_are_pair ?l_are_pair ?c_are_pair ?k_are_pair ?a_friends_of ?l_friends_of ?c_friends_of ?k_friends_of ?a_step_for ?l_step_for ?c_step_for ?k_step_for ?a_steps_of ?l_steps_of ?c_steps_of ?k_steps_of ?a_is_grown ?l_is_grown ?c_is_grown ?k_is_grown ?a__law_is ?l__law_is ?c__law_is ?k__law_is ?a__law_friends ?l__law_friends ?c__law_friends ?k__law_friends ?a__law_turn ?l__law_turn ?c__law_turn ?k__law_turn ?a__law_class ?l__law_class ?c__law_class ?k__law_class ?a__law_ring ?l__law_ring ?c__law_ring ?k__law_ring ?a__law_ringed ?l__law_ringed ?c__law_ringed ?k__law_ringed ?a_need_person ?l_need_person ?c_need_person ?k_need_person ?a_need_leaving ?l_need_leaving ?c_need_leaving ?k_need_leaving ?a_behind_turn ?l_behind_turn ?c_behind_turn ?k_behind_turn ?a_behind_turns ?l_behind_turns ?c_behind_turns ?k_behind_turns ?a_without ?l_without ?c_without ?k_without ?a_behind_leaving ?l_behind_leaving ?c_behind_leaving ?k_behind_leaving ?a_left ?l_left ?c_left ?k_left ?a_law ?l_law ?c_law ?k_law ?b_all ?b_bool ?b_int ?b_isinstance ?b_len ?b_list ?b_max ?b_min ?b_range ?b_reversed ?b_sorted ?b_str ?b_tuple ?b_zip ?c_LOOKS ?c_MOST_PEOPLE
    (case a__law_taken => k_is); (case l__law_taken => k_is); (case c__law_taken => k_is); (case k__law_taken => k_is); (case a__law_pairs => k_is); (case l__law_pairs => k_is)
    (case c__law_pairs => k_is); (case k__law_pairs => k_is); (case a__law_hall => k_is); (case l__law_hall => k_is); (case c__law_hall => k_is); (case k__law_hall => k_is)
    (case a_is_integer => k_is); (case l_is_integer => k_is); (case c_is_integer => k_is); (case k_is_integer => k_is); (case a_is_from => k_is); (case l_is_from => k_is)
    (case c_is_from => k_is); (case k_is_from => k_is); (case a_is_pair_of => k_is); (case l_is_pair_of => k_is); (case c_is_pair_of => k_is); (case k_is_pair_of => k_is)
    (case a_is_hall => k_is); (case l_is_hall => k_is); (case c_is_hall => k_is); (case k_is_hall => k_is); (case a_need_hall => k_is); (case l_need_hall => k_is)
    (case c_need_hall => k_is); (case k_need_hall => k_is); (case a_are_pair => k_is); (case l_are_pair => k_is); (case c_are_pair => k_is); (case k_are_pair => k_is)
    (case a_friends_of => k_is); (case l_friends_of => k_is); (case c_friends_of => k_is); (case k_friends_of => k_is); (case a_step_for => k_is); (case l_step_for => k_is)
    (case c_step_for => k_is); (case k_step_for => k_is); (case a_steps_of => k_is); (case l_steps_of => k_is); (case c_steps_of => k_is); (case k_steps_of => k_is)
    (case a_is_grown => k_is); (case l_is_grown => k_is); (case c_is_grown => k_is); (case k_is_grown => k_is); (case a__law_is => k_is); (case l__law_is => k_is)
    (case c__law_is => k_is); (case k__law_is => k_is); (case a__law_friends => k_is); (case l__law_friends => k_is); (case c__law_friends => k_is); (case k__law_friends => k_is)
    (case a__law_turn => k_is); (case l__law_turn => k_is); (case c__law_turn => k_is); (case k__law_turn => k_is); (case a__law_class => k_is); (case l__law_class => k_is)
    (case c__law_class => k_is); (case k__law_class => k_is); (case a__law_ring => k_is); (case l__law_ring => k_is); (case c__law_ring => k_is); (case k__law_ring => k_is)
    (case a__law_ringed => k_is); (case l__law_ringed => k_is); (case c__law_ringed => k_is); (case k__law_ringed => k_is); (case a_need_person => k_is); (case l_need_person => k_is)
    (case c_need_person => k_is); (case k_need_person => k_is); (case a_need_leaving => k_is); (case l_need_leaving => k_is); (case c_need_leaving => k_is); (case k_need_leaving => k_is)
    (case a_behind_turn => k_is); (case l_behind_turn => k_is); (case c_behind_turn => k_is); (case k_behind_turn => k_is); (case a_behind_turns => k_is); (case l_behind_turns => k_is)
    (case c_behind_turns => k_is); (case k_behind_turns => k_is); (case a_without => k_is); (case l_without => k_is); (case c_without => k_is); (case k_without => k_is)
    (case a_behind_leaving => k_is); (case l_behind_leaving => k_is); (case c_behind_leaving => k_is); (case k_behind_leaving => k_is); (case a_left => k_is); (case l_left => k_is)
    (case c_left => k_is); (case k_left => k_is); (case a_law => k_is); (case l_law => k_is); (case c_law => k_is); (case k_law => k_is)
    (case b_all => k_is); (case b_bool => k_is); (case b_int => k_is); (case b_isinstance => k_is); (case b_len => k_is); (case b_list => k_is)
    (case b_max => k_is); (case b_min => k_is); (case b_range => k_is); (case b_reversed => k_is); (case b_sorted => k_is); (case b_str => k_is)
    (case b_tuple => k_is); (case b_zip => k_is); (case c_LOOKS => k_is); (case c_MOST_PEOPLE => k_is)
