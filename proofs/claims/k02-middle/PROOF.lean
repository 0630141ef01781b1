import PyProof.Rows.All
import Wide.All
import OpenK.AllK
import Wide.FinOn
import HandS.ForMost
import HandS.ForExc
import HandS.Wide
import HandS.TupAny
import HandS.IsInst
import HandS.More
import KE.SortData
import KE.DataCmp
import HandS.Deep
import HandS.Defaults
import HandS.MakeKw
import HandS.Head0
import HandS.Head1
import HandS.Head2
import HandS.HeadEnd
import HandS.HeadHook1
import HandS.HeadHook2
import HandS.Ends
import HandS.Set
import HandS.SetFor
import HandS.Strs
import HandS.TupSets
import HandS.Sort
import KE.Datum
import KE.DatumOrd
import PySem.Challenge.RW_thingwise_k02_middle
set_option Elab.async false
set_option linter.all false
set_option maxRecDepth 100000
/-! The mirror layer: values without a heap (D), a store of cells that may change (S), results (R), how heaps bear them (RV, Rp), steps of heaps (Ext). -/
namespace Mi
open PySem PySem.Spec PyProof.Rows L2

inductive D where
  | non | bl (b : Bool) | int (i : Int) | str (x : Str) | ty (n : String)
  | tup (xs : List D) | lst (xs : List D) | dct (ks vs : List D) | set (xs : List D)
  | ins (c : Str) (ns : List Str) (vs : List D)
  | ref (i : Nat) | glo (x : Str) | scr (xs : List D)
mutual
def D.dec : (a b : D) → Decidable (a = b)
  | .non, b => match b with
    | .non => .isTrue rfl
    | .bl _ | .int _ | .str _ | .ty _ | .tup _ | .lst _ | .dct _ _ | .set _ | .ins _ _ _ | .ref _ | .glo _ | .scr _ => .isFalse (fun h => by cases h)
  | .bl x, b => match b with
    | .bl y => if h : x = y then .isTrue (by rw [h]) else .isFalse (fun e => h (by cases e; rfl))
    | .non | .int _ | .str _ | .ty _ | .tup _ | .lst _ | .dct _ _ | .set _ | .ins _ _ _ | .ref _ | .glo _ | .scr _ => .isFalse (fun h => by cases h)
  | .int x, b => match b with
    | .int y => if h : x = y then .isTrue (by rw [h]) else .isFalse (fun e => h (by cases e; rfl))
    | .non | .bl _ | .str _ | .ty _ | .tup _ | .lst _ | .dct _ _ | .set _ | .ins _ _ _ | .ref _ | .glo _ | .scr _ => .isFalse (fun h => by cases h)
  | .str x, b => match b with
    | .str y => if h : x = y then .isTrue (by rw [h]) else .isFalse (fun e => h (by cases e; rfl))
    | .non | .bl _ | .int _ | .ty _ | .tup _ | .lst _ | .dct _ _ | .set _ | .ins _ _ _ | .ref _ | .glo _ | .scr _ => .isFalse (fun h => by cases h)
  | .ty x, b => match b with
    | .ty y => if h : x = y then .isTrue (by rw [h]) else .isFalse (fun e => h (by cases e; rfl))
    | .non | .bl _ | .int _ | .str _ | .tup _ | .lst _ | .dct _ _ | .set _ | .ins _ _ _ | .ref _ | .glo _ | .scr _ => .isFalse (fun h => by cases h)
  | .tup x, b => match b with
    | .tup y => match D.decs x y with
      | .isTrue h => .isTrue (by rw [h])
      | .isFalse h => .isFalse (fun e => h (by cases e; rfl))
    | .non | .bl _ | .int _ | .str _ | .ty _ | .lst _ | .dct _ _ | .set _ | .ins _ _ _ | .ref _ | .glo _ | .scr _ => .isFalse (fun h => by cases h)
  | .lst x, b => match b with
    | .lst y => match D.decs x y with
      | .isTrue h => .isTrue (by rw [h])
      | .isFalse h => .isFalse (fun e => h (by cases e; rfl))
    | .non | .bl _ | .int _ | .str _ | .ty _ | .tup _ | .dct _ _ | .set _ | .ins _ _ _ | .ref _ | .glo _ | .scr _ => .isFalse (fun h => by cases h)
  | .dct x x', b => match b with
    | .dct y y' => match D.decs x y, D.decs x' y' with
      | .isTrue h, .isTrue h' => .isTrue (by rw [h, h'])
      | .isFalse h, _ => .isFalse (fun e => h (by cases e; rfl))
      | _, .isFalse h => .isFalse (fun e => h (by cases e; rfl))
    | .non | .bl _ | .int _ | .str _ | .ty _ | .tup _ | .lst _ | .set _ | .ins _ _ _ | .ref _ | .glo _ | .scr _ => .isFalse (fun h => by cases h)
  | .set x, b => match b with
    | .set y => match D.decs x y with
      | .isTrue h => .isTrue (by rw [h])
      | .isFalse h => .isFalse (fun e => h (by cases e; rfl))
    | .non | .bl _ | .int _ | .str _ | .ty _ | .tup _ | .lst _ | .dct _ _ | .ins _ _ _ | .ref _ | .glo _ | .scr _ => .isFalse (fun h => by cases h)
  | .ins c n x, b => match b with
    | .ins c' n' y => if hc : c = c' ∧ n = n' then match D.decs x y with
        | .isTrue h => .isTrue (by rw [h, hc.1, hc.2])
        | .isFalse h => .isFalse (fun e => h (by cases e; rfl))
      else .isFalse (fun e => hc (by cases e; exact ⟨rfl, rfl⟩))
    | .non | .bl _ | .int _ | .str _ | .ty _ | .tup _ | .lst _ | .dct _ _ | .set _ | .ref _ | .glo _ | .scr _ => .isFalse (fun h => by cases h)
  | .ref x, b => match b with
    | .ref y => if h : x = y then .isTrue (by rw [h]) else .isFalse (fun e => h (by cases e; rfl))
    | .non | .bl _ | .int _ | .str _ | .ty _ | .tup _ | .lst _ | .dct _ _ | .set _ | .ins _ _ _ | .glo _ | .scr _ => .isFalse (fun h => by cases h)
  | .glo x, b => match b with
    | .glo y => if h : x = y then .isTrue (by rw [h]) else .isFalse (fun e => h (by cases e; rfl))
    | .non | .bl _ | .int _ | .str _ | .ty _ | .tup _ | .lst _ | .dct _ _ | .set _ | .ins _ _ _ | .ref _ | .scr _ => .isFalse (fun h => by cases h)
  | .scr x, b => match b with
    | .scr y => match D.decs x y with
      | .isTrue h => .isTrue (by rw [h])
      | .isFalse h => .isFalse (fun e => h (by cases e; rfl))
    | .non | .bl _ | .int _ | .str _ | .ty _ | .tup _ | .lst _ | .dct _ _ | .set _ | .ins _ _ _ | .ref _ | .glo _ => .isFalse (fun h => by cases h)
def D.decs : (a b : List D) → Decidable (a = b)
  | [], [] => .isTrue rfl
  | [], _ :: _ => .isFalse (fun h => by cases h)
  | _ :: _, [] => .isFalse (fun h => by cases h)
  | x :: xs, y :: ys => match D.dec x y, D.decs xs ys with
    | .isTrue h, .isTrue h' => .isTrue (by rw [h, h'])
    | .isFalse h, _ => .isFalse (fun e => h (by cases e; rfl))
    | _, .isFalse h => .isFalse (fun e => h (by cases e; rfl))
end
instance : DecidableEq D := D.dec
inductive Cell where
  | lst (xs : List D) | dct (ks vs : List D) | ins (c : Str) (ns : List Str) (vs : List D)
  deriving DecidableEq
abbrev S := List Cell
abbrev Fr := List (Option D)
structure Ex where
  c : Str
  ns : List Str
  vs : List D
inductive R (α : Type) where
  | ok (a : α) (s : S) | ex (x : Ex) (s : S) | bad
def R.bind {α β : Type} (r : R α) (f : α → S → R β) : R β := match r with
  | .ok a s => f a s
  | .ex x s => .ex x s
  | .bad => .bad
@[simp] theorem R.bind_ok {α β : Type} (a : α) (s : S) (f : α → S → R β) : (R.ok a s).bind f = f a s := rfl
@[simp] theorem R.bind_ex {α β : Type} (x : Ex) (s : S) (f : α → S → R β) : (R.ex x s).bind f = .ex x s := rfl
@[simp] theorem R.bind_bad {α β : Type} (f : α → S → R β) : (R.bad).bind f = .bad := rfl

abbrev MG := Str → Option Value
/-- a dict key's datum -/
def kD : Key → D
  | .inl i => .int i
  | .inr x => .str x
/-- the dict that the object o is: keys and values -/
def DK (o : Option HO) (ks : List D) (vs : List V) : Prop :=
  (∃ kvs : List (Key × V), o = some (.dK kvs) ∧ ks = kvs.map (fun p => kD p.1) ∧ vs = kvs.map (·.2)) ∨
  (∃ kvs : List (List Key × V), o = some (.dT kvs) ∧ ks = kvs.map (fun p => .tup (p.1.map kD)) ∧ vs = kvs.map (·.2))
mutual
def RV (mg : MG) (G : Hp) (io : List Addr) : D → V → Prop
  | .non, v => v = .non
  | .bl b, v => v = .bl b
  | .int i, v => v = .int i
  | .str x, v => v = .str x
  | .ty n, v => v = .ty n
  | .tup ds, v => ∃ a vs, v = .ref a ∧ G a = some (.tup vs) ∧ RVs mg G io ds vs
  | .lst ds, v => ∃ a vs, v = .ref a ∧ G a = some (.lst vs) ∧ RVs mg G io ds vs
  | .dct ks ds, v => ∃ a vs, v = .ref a ∧ DK (G a) ks vs ∧ RVs mg G io ds vs
  | .set ds, v => False
  | .ins c ns ds, v => ∃ a C dx vs, v = .ref a ∧ mg c = some (.ref C) ∧ G a = some (.ins C dx (ns.zip vs)) ∧ vs.length = ns.length ∧ RVs mg G io ds vs
  | .ref i, v => ∃ a, v = .ref a ∧ io[i]? = some a
  | .glo x, v => ∃ u, mg x = some u ∧ RelV v u
  | .scr ds, v => ∃ a o vs, v = .ref a ∧ G a = some (.frz o (.lst vs)) ∧ RVs mg G io ds vs
def RVs (mg : MG) (G : Hp) (io : List Addr) : List D → List V → Prop
  | [], vs => vs = []
  | d :: ds, vs => ∃ v r, vs = v :: r ∧ RV mg G io d v ∧ RVs mg G io ds r
end
def RC (mg : MG) (G : Hp) (io : List Addr) (H : Hp) (a : Addr) : Cell → Prop
  | .lst ds => ∃ vs, H a = some (.lst vs) ∧ RVs mg G io ds vs
  | .dct ks ds => ∃ vs, DK (H a) ks vs ∧ RVs mg G io ds vs
  | .ins c ns ds => ∃ C dx vs, mg c = some (.ref C) ∧ H a = some (.ins C dx (ns.zip vs)) ∧ vs.length = ns.length ∧ RVs mg G io ds vs
structure Rp (mg : MG) (G H : Hp) (io : List Addr) (s : S) : Prop where
  gh : ∀ a o, G a = some o → H a = some o
  len : io.length = s.length
  nd : io.Nodup
  cell : ∀ (i : Nat) a c, io[i]? = some a → s[i]? = some c → G a = none ∧ RC mg G io H a c
/-- heaps go on: what is still stays, new cells and still things are new -/
structure Ext (G H : Hp) (io : List Addr) (G' H' : Hp) (io' : List Addr) : Prop where
  g : ∀ a o, G a = some o → G' a = some o
  p : ∃ t, io' = io ++ t
  fr : ∀ a o, H a = some o → a ∉ io → H' a = some o
  nw : ∀ a, a ∈ io' → a ∉ io → H a = none
  gn : ∀ a o, G' a = some o → G a = none → H a = none
  dm : ∀ a o, H a = some o → ∃ o', H' a = some o'

variable {mg : MG} {G G' G'' H H' H'' : Hp} {io io' io'' : List Addr} {s s' : S}
theorem Ext.refl : Ext G H io G H io := ⟨fun _ _ h => h, ⟨[], by simp⟩, fun _ _ h _ => h, fun _ h n => absurd h n, fun a o h n => (by rw [h] at n; cases n), fun _ o h => ⟨o, h⟩⟩
theorem Ext.mem (e : Ext G H io G' H' io') {a : Addr} (h : a ∈ io) : a ∈ io' := by
  obtain ⟨t, rfl⟩ := e.p
  exact List.mem_append_left _ h
theorem Ext.nn (e : Ext G H io G' H' io') {a : Addr} (h : H' a = none) : H a = none := by
  cases q : H a with
  | none => rfl
  | some o =>
    obtain ⟨o', h'⟩ := e.dm a o q
    rw [h] at h'
    cases h'
theorem Ext.trans (e : Ext G H io G' H' io') (f : Ext G' H' io' G'' H'' io'') : Ext G H io G'' H'' io'' where
  g := fun a o h => f.g a o (e.g a o h)
  p := by
    obtain ⟨t, rfl⟩ := e.p
    obtain ⟨u, rfl⟩ := f.p
    exact ⟨t ++ u, by rw [List.append_assoc]⟩
  fr := fun a o h n => f.fr a o (e.fr a o h n) fun m => by
    have := e.nw a m n
    rw [h] at this
    cases this
  nw := fun a m n => by
    by_cases m' : a ∈ io'
    · exact e.nw a m' n
    · exact e.nn (f.nw a m m')
  gn := fun a o h n => by
    cases q : G' a with
    | none => exact e.nn (f.gn a o h q)
    | some u => exact e.gn a u q n
  dm := fun a o h => by
    obtain ⟨o', h'⟩ := e.dm a o h
    exact f.dm a o' h'
theorem DK.is {o : Option HO} {ks : List D} {vs : List V} (h : DK o ks vs) : ∃ u, o = some u := by
  rcases h with ⟨_, h, _⟩ | ⟨_, h, _⟩ <;> exact ⟨_, h⟩
theorem DK.mono (g : ∀ a o, G a = some o → G' a = some o) {a : Addr} {ks : List D} {vs : List V} (h : DK (G a) ks vs) : DK (G' a) ks vs := by
  obtain ⟨u, hu⟩ := h.is
  rw [g a u hu, ← hu]
  exact h
theorem idx_mono {i : Nat} {a : Addr} (p : ∃ t, io' = io ++ t) (h : io[i]? = some a) : io'[i]? = some a := by
  obtain ⟨t, rfl⟩ := p
  have := (List.getElem?_eq_some_iff.mp h).1
  rw [List.getElem?_append_left this]
  exact h
mutual
theorem RV.mono (g : ∀ a o, G a = some o → G' a = some o) (p : ∃ t, io' = io ++ t) : ∀ (d : D) (v : V), RV mg G io d v → RV mg G' io' d v
  | .non, _, h => by simpa only [RV] using h
  | .bl _, _, h => by simpa only [RV] using h
  | .int _, _, h => by simpa only [RV] using h
  | .str _, _, h => by simpa only [RV] using h
  | .ty _, _, h => by simpa only [RV] using h
  | .tup ds, v, h => by
    simp only [RV] at h ⊢
    obtain ⟨a, vs, e, h1, h2⟩ := h
    exact ⟨a, vs, e, g _ _ h1, RVs.mono g p ds vs h2⟩
  | .lst ds, v, h => by
    simp only [RV] at h ⊢
    obtain ⟨a, vs, e, h1, h2⟩ := h
    exact ⟨a, vs, e, g _ _ h1, RVs.mono g p ds vs h2⟩
  | .dct ks ds, v, h => by
    simp only [RV] at h ⊢
    obtain ⟨a, vs, e, h1, h2⟩ := h
    exact ⟨a, vs, e, DK.mono g h1, RVs.mono g p ds vs h2⟩
  | .set _, _, h => by simp only [RV] at h
  | .ins c ns ds, v, h => by
    simp only [RV] at h ⊢
    obtain ⟨a, C, dx, vs, e, h0, h1, h2, h3⟩ := h
    exact ⟨a, C, dx, vs, e, h0, g _ _ h1, h2, RVs.mono g p ds vs h3⟩
  | .ref i, v, h => by
    simp only [RV] at h ⊢
    obtain ⟨a, e, h⟩ := h
    exact ⟨a, e, idx_mono p h⟩
  | .glo _, _, h => by simpa only [RV] using h
  | .scr ds, v, h => by
    simp only [RV] at h ⊢
    obtain ⟨a, o, vs, e, h1, h2⟩ := h
    exact ⟨a, o, vs, e, g _ _ h1, RVs.mono g p ds vs h2⟩
theorem RVs.mono (g : ∀ a o, G a = some o → G' a = some o) (p : ∃ t, io' = io ++ t) : ∀ (ds : List D) (vs : List V), RVs mg G io ds vs → RVs mg G' io' ds vs
  | [], _, h => by simpa only [RVs] using h
  | d :: ds, vs, h => by
    simp only [RVs] at h ⊢
    obtain ⟨v, r, e, h1, h2⟩ := h
    exact ⟨v, r, e, RV.mono g p d v h1, RVs.mono g p ds r h2⟩
end
theorem RV.ext (e : Ext G H io G' H' io') {d : D} {v : V} (h : RV mg G io d v) : RV mg G' io' d v := RV.mono e.g e.p d v h
theorem RVs.ext (e : Ext G H io G' H' io') {d : List D} {v : List V} (h : RVs mg G io d v) : RVs mg G' io' d v := RVs.mono e.g e.p d v h
theorem RVs.nil : RVs mg G io [] [] := by simp only [RVs]
theorem RVs.cons {d : D} {ds : List D} {v : V} {vs : List V} (h : RV mg G io d v) (t : RVs mg G io ds vs) : RVs mg G io (d :: ds) (v :: vs) := by
  simp only [RVs]
  exact ⟨v, vs, rfl, h, t⟩
theorem RVs.nil_inv {vs : List V} (h : RVs mg G io [] vs) : vs = [] := by simpa only [RVs] using h
theorem RVs.cons_inv {d : D} {ds : List D} {vs : List V} (h : RVs mg G io (d :: ds) vs) : ∃ v r, vs = v :: r ∧ RV mg G io d v ∧ RVs mg G io ds r := by simpa only [RVs] using h
theorem RVs.len : ∀ {ds : List D} {vs : List V}, RVs mg G io ds vs → vs.length = ds.length
  | [], _, h => by rw [h.nil_inv]; rfl
  | d :: ds, _, h => by
    obtain ⟨v, r, rfl, _, t⟩ := h.cons_inv
    rw [List.length_cons, List.length_cons, RVs.len t]
theorem RVs.get : ∀ {ds : List D} {vs : List V} {i : Nat} {d : D}, RVs mg G io ds vs → ds[i]? = some d → ∃ v, vs[i]? = some v ∧ RV mg G io d v
  | [], _, _, _, _, e => by simp at e
  | x :: ds, _, 0, d, h, e => by
    obtain ⟨v, r, rfl, h1, t⟩ := h.cons_inv
    simp at e
    subst e
    exact ⟨v, rfl, h1⟩
  | x :: ds, _, i + 1, d, h, e => by
    obtain ⟨v, r, rfl, h1, t⟩ := h.cons_inv
    simp at e
    obtain ⟨w, h2, h3⟩ := RVs.get t e
    exact ⟨w, by simpa using h2, h3⟩
theorem RVs.getV : ∀ {ds : List D} {vs : List V} {i : Nat} {v : V}, RVs mg G io ds vs → vs[i]? = some v → ∃ d, ds[i]? = some d ∧ RV mg G io d v
  | [], _, _, _, h, e => by rw [h.nil_inv] at e; simp at e
  | x :: ds, _, 0, v, h, e => by
    obtain ⟨w, r, rfl, h1, t⟩ := h.cons_inv
    simp at e
    subst e
    exact ⟨x, rfl, h1⟩
  | x :: ds, _, i + 1, v, h, e => by
    obtain ⟨w, r, rfl, h1, t⟩ := h.cons_inv
    simp at e
    obtain ⟨d, h2, h3⟩ := RVs.getV t e
    exact ⟨d, by simpa using h2, h3⟩
theorem RVs.append : ∀ {ds es : List D} {vs ws : List V}, RVs mg G io ds vs → RVs mg G io es ws → RVs mg G io (ds ++ es) (vs ++ ws)
  | [], _, _, _, h, k => by rw [h.nil_inv]; exact k
  | d :: ds, _, _, _, h, k => by
    obtain ⟨v, r, rfl, h1, t⟩ := h.cons_inv
    exact RVs.cons h1 (RVs.append t k)
theorem RVs.take : ∀ {ds : List D} {vs : List V} (n : Nat), RVs mg G io ds vs → RVs mg G io (ds.take n) (vs.take n)
  | _, _, 0, _ => by simpa using RVs.nil
  | [], _, n + 1, h => by rw [h.nil_inv]; simpa using RVs.nil
  | d :: ds, _, n + 1, h => by
    obtain ⟨v, r, rfl, h1, t⟩ := h.cons_inv
    exact RVs.cons h1 (RVs.take n t)
theorem RVs.drop : ∀ {ds : List D} {vs : List V} (n : Nat), RVs mg G io ds vs → RVs mg G io (ds.drop n) (vs.drop n)
  | _, _, 0, h => by simpa using h
  | [], _, n + 1, h => by rw [h.nil_inv]; simpa using RVs.nil
  | d :: ds, _, n + 1, h => by
    obtain ⟨v, r, rfl, h1, t⟩ := h.cons_inv
    exact RVs.drop n t
theorem RVs.set {d : D} {v : V} (hv : RV mg G io d v) : ∀ {ds : List D} {vs : List V} (n : Nat), RVs mg G io ds vs → RVs mg G io (ds.set n d) (vs.set n v)
  | [], _, _, h => by rw [h.nil_inv]; simpa using RVs.nil
  | x :: ds, _, 0, h => by
    obtain ⟨w, r, rfl, h1, t⟩ := h.cons_inv
    exact RVs.cons hv t
  | x :: ds, _, n + 1, h => by
    obtain ⟨w, r, rfl, h1, t⟩ := h.cons_inv
    exact RVs.cons h1 (RVs.set hv n t)
theorem RVs.rev : ∀ {ds : List D} {vs : List V}, RVs mg G io ds vs → RVs mg G io ds.reverse vs.reverse
  | [], _, h => by rw [h.nil_inv]; simpa using RVs.nil
  | d :: ds, _, h => by
    obtain ⟨v, r, rfl, h1, t⟩ := h.cons_inv
    rw [List.reverse_cons, List.reverse_cons]
    exact (RVs.rev t).append (RVs.cons h1 RVs.nil)
theorem RC.mono (g : ∀ a o, G a = some o → G' a = some o) (p : ∃ t, io' = io ++ t) {a : Addr} (h : H' a = H a) : ∀ {c : Cell}, RC mg G io H a c → RC mg G' io' H' a c
  | .lst ds, q => by
    obtain ⟨vs, h1, h2⟩ := q
    exact ⟨vs, h.trans h1, RVs.mono g p _ _ h2⟩
  | .dct ks ds, q => by
    obtain ⟨vs, h1, h2⟩ := q
    exact ⟨vs, by rw [h]; exact h1, RVs.mono g p _ _ h2⟩
  | .ins c ns ds, q => by
    obtain ⟨C, dx, vs, h0, h1, h2, h3⟩ := q
    exact ⟨C, dx, vs, h0, h.trans h1, h2, RVs.mono g p _ _ h3⟩
theorem RC.is {a : Addr} {c : Cell} (h : RC mg G io H a c) : ∃ o, H a = some o := by
  cases c with
  | lst _ => obtain ⟨_, h, _⟩ := h; exact ⟨_, h⟩
  | dct _ _ =>
    obtain ⟨_, h, _⟩ := h
    exact h.is
  | ins _ _ _ => obtain ⟨_, _, _, _, h, _⟩ := h; exact ⟨_, h⟩
theorem Rp.at_ (r : Rp mg G H io s) {a : Addr} (h : a ∈ io) : ∃ (i : Nat) (c : Cell), io[i]? = some a ∧ s[i]? = some c ∧ G a = none ∧ RC mg G io H a c := by
  obtain ⟨i, hi⟩ := List.getElem?_of_mem h
  have hl := (List.getElem?_eq_some_iff.mp hi).1
  rw [r.len] at hl
  exact ⟨i, s[i], hi, List.getElem?_eq_getElem hl, r.cell i a _ hi (List.getElem?_eq_getElem hl)⟩
theorem Rp.io_some (r : Rp mg G H io s) {a : Addr} (h : a ∈ io) : ∃ o, H a = some o := by
  obtain ⟨_, _, _, _, _, q⟩ := r.at_ h
  exact q.is
theorem Rp.io_none (r : Rp mg G H io s) {a : Addr} (h : H a = none) : a ∉ io := fun m => by
  obtain ⟨o, q⟩ := r.io_some m
  rw [h] at q
  cases q
theorem Rp.g_none (r : Rp mg G H io s) {a : Addr} (h : H a = none) : G a = none := by
  cases q : G a with
  | none => rfl
  | some o =>
    rw [r.gh a o q] at h
    cases h
/-- a new still thing -/
theorem Rp.still (r : Rp mg G H io s) {p : Addr} {o : HO} (hp : H p = none) : Rp mg (upd G p o) (upd H p o) io s where
  gh := fun a u h => by
    by_cases e : a = p
    · rw [e, upd_same] at h ⊢
      exact h
    · rw [upd_ne e] at h ⊢
      exact r.gh a u h
  len := r.len
  nd := r.nd
  cell := fun i a c hi hc => by
    have ha : a ∈ io := List.mem_of_getElem? hi
    have ne : a ≠ p := fun e => r.io_none hp (e ▸ ha)
    obtain ⟨h1, h2⟩ := r.cell i a c hi hc
    refine ⟨by rw [upd_ne ne]; exact h1, h2.mono (fun b u h => ?_) ⟨[], by simp⟩ (upd_ne ne)⟩
    rw [upd_ne (fun e => by rw [e, r.g_none hp] at h; cases h)]
    exact h
theorem Rp.stillE (r : Rp mg G H io s) {p : Addr} {o : HO} (hp : H p = none) : Ext G H io (upd G p o) (upd H p o) io where
  g := fun b u h => by
    rw [upd_ne (fun e => by rw [e, r.g_none hp] at h; cases h)]
    exact h
  p := ⟨[], by simp⟩
  fr := fun b u h _ => by
    rw [upd_ne (fun e => by rw [e, hp] at h; cases h)]
    exact h
  nw := fun a h n => absurd h n
  gn := fun a u h n => by
    by_cases e : a = p
    · rw [e]
      exact hp
    · rw [upd_ne e, n] at h
      cases h
  dm := fun b u h => ⟨u, by
    rw [upd_ne (fun e => by rw [e, hp] at h; cases h)]
    exact h⟩
/-- a new cell -/
theorem Rp.fresh (r : Rp mg G H io s) {p : Addr} {o : HO} {c : Cell} (hp : H p = none) (hc : RC mg G (io ++ [p]) (upd H p o) p c) : Rp mg G (upd H p o) (io ++ [p]) (s ++ [c]) where
  gh := fun a u h => by
    rw [upd_ne (fun e => by rw [e, r.g_none hp] at h; cases h)]
    exact r.gh a u h
  len := by rw [List.length_append, List.length_append, r.len]; rfl
  nd := List.nodup_append.mpr ⟨r.nd, by simp, fun a ha b hb e => r.io_none hp (by
    rw [List.mem_singleton.mp hb] at e
    exact e ▸ ha)⟩
  cell := fun i a c' hi hc' => by
    by_cases hl : i < s.length
    · rw [List.getElem?_append_left (by rw [r.len]; exact hl)] at hi
      rw [List.getElem?_append_left hl] at hc'
      have ne : a ≠ p := fun e => r.io_none hp (e ▸ List.mem_of_getElem? hi)
      obtain ⟨h1, h2⟩ := r.cell i a c' hi hc'
      exact ⟨h1, h2.mono (fun _ _ h => h) ⟨[p], rfl⟩ (upd_ne ne)⟩
    · have hs : i < (s ++ [c]).length := (List.getElem?_eq_some_iff.mp hc').1
      rw [List.length_append, List.length_singleton] at hs
      have ei : i = s.length := by omega
      subst ei
      rw [List.getElem?_append_right (Nat.le_refl _), Nat.sub_self] at hc'
      rw [← r.len, List.getElem?_append_right (Nat.le_refl _), Nat.sub_self] at hi
      simp at hi hc'
      subst hi
      subst hc'
      exact ⟨r.g_none hp, hc⟩
theorem Rp.freshE (r : Rp mg G H io s) {p : Addr} {o : HO} (hp : H p = none) : Ext G H io G (upd H p o) (io ++ [p]) where
  g := fun _ _ h => h
  p := ⟨[p], rfl⟩
  fr := fun b u h _ => by
    rw [upd_ne (fun e => by rw [e, hp] at h; cases h)]
    exact h
  nw := fun a h n => by
    rcases List.mem_append.mp h with h | h
    · exact absurd h n
    · rw [List.mem_singleton.mp h]
      exact hp
  gn := fun a u h n => by rw [n] at h; cases h
  dm := fun b u h => ⟨u, by
    rw [upd_ne (fun e => by rw [e, hp] at h; cases h)]
    exact h⟩
/-- a cell is changed -/
theorem Rp.write (r : Rp mg G H io s) {i : Nat} {p : Addr} {o : HO} {c : Cell} (hi : io[i]? = some p) (hc : RC mg G io (upd H p o) p c) : Rp mg G (upd H p o) io (s.set i c) where
  gh := fun a u h => by
    have hp : p ∈ io := List.mem_of_getElem? hi
    obtain ⟨_, _, _, _, g, _⟩ := r.at_ hp
    rw [upd_ne (fun e => by rw [e, g] at h; cases h)]
    exact r.gh a u h
  len := by rw [List.length_set]; exact r.len
  nd := r.nd
  cell := fun j a c' hj hc' => by
    by_cases e : j = i
    · subst e
      rw [hi] at hj
      cases hj
      have hl := (List.getElem?_eq_some_iff.mp hc').1
      rw [List.getElem?_set_self (by rw [List.length_set] at hl; exact hl)] at hc'
      cases hc'
      obtain ⟨_, _, _, _, g, _⟩ := r.at_ (List.mem_of_getElem? hi)
      exact ⟨g, hc⟩
    · rw [List.getElem?_set_ne (Ne.symm e)] at hc'
      have ne : a ≠ p := fun q => by
        subst q
        obtain ⟨l1, e1⟩ := List.getElem?_eq_some_iff.mp hi
        obtain ⟨l2, e2⟩ := List.getElem?_eq_some_iff.mp hj
        exact e ((List.getElem_inj r.nd).mp (e2.trans e1.symm))
      obtain ⟨h1, h2⟩ := r.cell j a c' hj hc'
      exact ⟨h1, h2.mono (fun _ _ h => h) ⟨[], by simp⟩ (upd_ne ne)⟩
theorem Rp.writeE (r : Rp mg G H io s) {p : Addr} {o : HO} (hp : p ∈ io) : Ext G H io G (upd H p o) io where
  g := fun _ _ h => h
  p := ⟨[], by simp⟩
  fr := fun b u h n => by
    rw [upd_ne (fun e => n (by rw [e]; exact hp))]
    exact h
  nw := fun a h n => absurd h n
  gn := fun a u h n => by rw [n] at h; cases h
  dm := fun b u h => by
    by_cases e : b = p
    · exact ⟨o, by rw [e, upd_same]⟩
    · exact ⟨u, by rw [upd_ne e]; exact h⟩
/-! ### what follows -/
def RX (mg : MG) (G H : Hp) (io : List Addr) (x : Ex) (C : Value) (dx : Option Addr) : Prop :=
  (∃ A, mg x.c = some (.ref A) ∧ C = .ref A) ∧ ((x.ns = [] ∧ x.vs = [] ∧ dx = none) ∨ ∃ d vs, dx = some d ∧ H d = some (.xd (x.ns.zip vs)) ∧ vs.length = x.ns.length ∧ RVs mg G io x.vs vs)
def Po {α β : Type} (rel : Hp → List Addr → α → β → Prop) (mg : MG) (G H : Hp) (io : List Addr) (r : R α) (Q : β → Hp → Prop) (E : XK) : Prop := match r with
  | .ok a s' => ∀ G' H' io' b, Ext G H io G' H' io' → Rp mg G' H' io' s' → rel G' io' a b → Q b H'
  | .ex x s' => ∀ G' H' io' C dx, Ext G H io G' H' io' → Rp mg G' H' io' s' → RX mg G' H' io' x C dx → E C dx H'
  | .bad => False
section
variable {α β α' β' : Type} {rel : Hp → List Addr → α → β → Prop} {rel' : Hp → List Addr → α' → β' → Prop} {r : R α} {Q : β → Hp → Prop} {E : XK}
theorem Po.ext (e : Ext G H io G' H' io') (h : Po rel mg G H io r Q E) : Po rel mg G' H' io' r Q E := by
  cases r with
  | ok a s => exact fun _ _ _ b x => h _ _ _ b (e.trans x)
  | ex a s => exact fun _ _ _ C dx x => h _ _ _ C dx (e.trans x)
  | bad => exact h
theorem Po.bind {f : α → S → R α'} {Q' : β' → Hp → Prop} {K : β → Hp → Prop} (h : Po rel' mg G H io (r.bind f) Q' E)
    (k : ∀ a s1 G1 H1 io1 b, Ext G H io G1 H1 io1 → Rp mg G1 H1 io1 s1 → rel G1 io1 a b → Po rel' mg G1 H1 io1 (f a s1) Q' E → K b H1) : Po rel mg G H io r K E := by
  cases r with
  | ok a s => exact fun G1 H1 io1 b e p q => k a s G1 H1 io1 b e p q (Po.ext e h)
  | ex x s => exact h
  | bad => exact h
theorem Po.imp {Q' : β → Hp → Prop} {E' : XK} (h : Po rel mg G H io r Q E) (hQ : ∀ b H, Q b H → Q' b H) (hE : ∀ c d H, E c d H → E' c d H) : Po rel mg G H io r Q' E' := by
  cases r with
  | ok a s => exact fun _ _ _ b x y z => hQ _ _ (h _ _ _ b x y z)
  | ex a s => exact fun _ _ _ C dx x y z => hE _ _ _ (h _ _ _ C dx x y z)
  | bad => exact h
end
abbrev PoV (mg : MG) (G H : Hp) (io : List Addr) (r : R D) (Q : VK) (E : XK) : Prop := Po (RV mg) mg G H io r Q E
abbrev PoB (mg : MG) (G H : Hp) (io : List Addr) (r : R Bool) (Q : Bool → Hp → Prop) (E : XK) : Prop := Po (fun _ _ a b => a = b) mg G H io r Q E
abbrev PoL (mg : MG) (G H : Hp) (io : List Addr) (r : R (List D)) (Q : List V → Hp → Prop) (E : XK) : Prop := Po (RVs mg) mg G H io r Q E
/-! ### slots -/
def RE (mg : MG) (G : Hp) (io : List Addr) (env : Fr) (σ : L2.St) : Prop := env.length = σ.length ∧ ∀ (i : Nat) (d : D), env[i]? = some (some d) → ∃ v, σ[i]? = some (some v) ∧ RV mg G io d v
theorem RE.ext {env : Fr} {σ : L2.St} (e : Ext G H io G' H' io') (h : RE mg G io env σ) : RE mg G' io' env σ := ⟨h.1, fun i d q => by
  obtain ⟨v, h1, h2⟩ := h.2 i d q
  exact ⟨v, h1, h2.ext e⟩⟩
theorem RE.set {env : Fr} {σ : L2.St} {d : D} {v : V} (h : RE mg G io env σ) (hv : RV mg G io d v) (i : Nat) : RE mg G io (env.set i (some d)) (σ.set i (some v)) := ⟨by rw [List.length_set, List.length_set]; exact h.1, fun j e q => by
  by_cases hj : j = i
  · subst hj
    have hl := (List.getElem?_eq_some_iff.mp q).1
    rw [List.length_set] at hl
    rw [List.getElem?_set_self hl] at q
    cases q
    exact ⟨v, by rw [List.getElem?_set_self (by rw [← h.1]; exact hl)], hv⟩
  · rw [List.getElem?_set_ne (Ne.symm hj)] at q
    obtain ⟨w, h1, h2⟩ := h.2 j e q
    exact ⟨w, by rw [List.getElem?_set_ne (Ne.symm hj)]; exact h1, h2⟩⟩
end Mi

set_option Elab.async false
set_option linter.all false
set_option maxRecDepth 100000
/-! The judgements of the mirror layer: an expression, a test, arguments, a statement have this mirror. -/
namespace Mi
open PySem PySem.Spec PyProof.Rows L2
variable {X : Cx} {W : WX}
/-- what is wished of an exception at the slots σ -/
abbrev WAt (W : WX) (σ : L2.St) : XK := fun c d H => W c d σ H
structure ME (X : Cx) (W : WX) (e : Expr) (m : Fr → S → R D) : Prop where
  h : ∃ t, PE X e t ∧ ∀ (G H : Hp) (io : List Addr) (env : Fr) (σ : L2.St) (s : S) (Q : VK), RE X.mg G io env σ → Rp X.mg G H io s → PoV X.mg G H io (m env s) Q (WAt W σ) → t σ H Q
structure MT (X : Cx) (W : WX) (e : Expr) (m : Fr → S → R Bool) : Prop where
  h : ∃ t, PT X e t ∧ ∀ (G H : Hp) (io : List Addr) (env : Fr) (σ : L2.St) (s : S) (Q : Bool → Hp → Prop), RE X.mg G io env σ → Rp X.mg G H io s → PoB X.mg G H io (m env s) Q (WAt W σ) → t σ H Q
structure MW (X : Cx) (W : WX) (e : Expr) (m : Fr → S → R Bool) : Prop where
  h : ∃ t, PW X e t ∧ ∀ (G H : Hp) (io : List Addr) (env : Fr) (σ : L2.St) (s : S) (Q : Bool → Hp → Prop), RE X.mg G io env σ → Rp X.mg G H io s → PoB X.mg G H io (m env s) Q (WAt W σ) → t σ H Q
structure MA (X : Cx) (W : WX) (es : List Expr) (m : Fr → S → R (List D)) : Prop where
  h : ∃ t, PA X es t ∧ ∀ (G H : Hp) (io : List Addr) (env : Fr) (σ : L2.St) (s : S) (Q : List V → Hp → Prop), RE X.mg G io env σ → Rp X.mg G H io s → PoL X.mg G H io (m env s) Q (WAt W σ) → t σ H Q
theorem MW.mt {e : Expr} {m : Fr → S → R Bool} (h : MW X W e m) : MT X W e m := by
  obtain ⟨t, p, q⟩ := h.h
  exact ⟨t, p.pt, q⟩
/-! the readings that hang on the mirror alone -/
def tM (mg : MG) (W : WX) (m : Fr → S → R D) : TE := fun σ H Q => ∃ (G : Hp) (io : List Addr) (env : Fr) (s : S), RE mg G io env σ ∧ Rp mg G H io s ∧ PoV mg G H io (m env s) Q (WAt W σ)
def tMB (mg : MG) (W : WX) (m : Fr → S → R Bool) : TT := fun σ H Q => ∃ (G : Hp) (io : List Addr) (env : Fr) (s : S), RE mg G io env σ ∧ Rp mg G H io s ∧ PoB mg G H io (m env s) Q (WAt W σ)
theorem ME.pe {e : Expr} {m : Fr → S → R D} (h : ME X W e m) : PE X e (tM X.mg W m) := by
  obtain ⟨t, p, q⟩ := h.h
  exact ⟨fun pins s σ H Q I ⟨G, io, env, s0, re, rp, po⟩ => p.run pins s σ H Q I (q G H io env σ s0 Q re rp po)⟩
theorem MT.pt {e : Expr} {m : Fr → S → R Bool} (h : MT X W e m) : PT X e (tMB X.mg W m) := by
  obtain ⟨t, p, q⟩ := h.h
  exact ⟨fun pins s σ H Q I ⟨G, io, env, s0, re, rp, po⟩ => p.run pins s σ H Q I (q G H io env σ s0 Q re rp po)⟩
/-! ### names and constants -/
def mVar (i : Nat) : Fr → S → R D := fun env s => match env[i]? with
  | some (some d) => .ok d s
  | _ => .bad
def mC (d : D) : Fr → S → R D := fun _ s => .ok d s
theorem Po.now {α β : Type} {rel : Hp → List Addr → α → β → Prop} {mg : MG} {G H : Hp} {io : List Addr} {a : α} {s : S} {b : β} {Q : β → Hp → Prop} {E : XK} (h : Po rel mg G H io (.ok a s) Q E) (r : Rp mg G H io s) (q : rel G io a b) : Q b H := h _ _ _ b Ext.refl r q
theorem me_var (i : Nat) {x : Str} {pos : Pos} (hN : X.N[i]? = some x) (hv : Vis X.env.scope x) (hd : (x == ("__debug__" : Str)) = false := by decide) (hcd : (x == ("__classdict__" : Str)) = false := by decide) : ME X W (.Name x pos) (mVar i) := by
  refine ⟨_, pe_var hN hv hd hcd, fun G H io env σ s Q re rp h => ?_⟩
  unfold mVar at h
  cases q : env[i]? with
  | none => rw [q] at h; exact h.elim
  | some o => cases o with
    | none => rw [q] at h; exact h.elim
    | some d =>
      rw [q] at h
      obtain ⟨v, hv, rv⟩ := re.2 i d q
      exact ⟨v, hv, h.now rp rv⟩
theorem me_int {i j pos} : ME X W (.Constant (.int i) j pos) (mC (.int i)) := ⟨_, pe_int, fun G H io env σ s Q re rp h => h.now rp (by simp only [RV])⟩
theorem me_bl {b j pos} : ME X W (.Constant (.bool b) j pos) (mC (.bl b)) := ⟨_, pe_bl, fun G H io env σ s Q re rp h => h.now rp (by simp only [RV])⟩
theorem me_non {j pos} : ME X W (.Constant .none j pos) (mC .non) := ⟨_, pe_non, fun G H io env σ s Q re rp h => h.now rp (by simp only [RV])⟩
theorem me_str {x j pos} : ME X W (.Constant (.str x) j pos) (mC (.str x)) := ⟨_, pe_str, fun G H io env σ s Q re rp h => h.now rp (by simp only [RV])⟩
/-- a built-in class as a value -/
theorem me_ty {x : Str} {n : String} {pos : Pos} (hg : Gl X x) (hm : X.mg x = none) (hv : bootBuiltins x = some (.type n)) (hn : x ≠ "__name__" := by decide) (hd : (x == ("__debug__" : Str)) = false := by decide) : ME X W (.Name x pos) (mC (.ty n)) :=
  ⟨_, pe_bltn (v := .ty n) hg hm hv rfl hn hd, fun G H io env σ s Q re rp h => h.now rp (by simp only [RV])⟩
/-- an own class or def as a value -/
theorem me_glo {x : Str} {u : Value} {v : V} {pos : Pos} (hg : Gl X x) (hm : X.mg x = some u) (r : RelV v u) (hd : (x == ("__debug__" : Str)) = false := by decide) : ME X W (.Name x pos) (mC (.glo x)) :=
  ⟨_, pe_glob (v := v) hg hm r hd, fun G H io env σ s Q re rp h => h.now rp (by simp only [RV]; exact ⟨u, hm, r⟩)⟩
/-! ### arguments -/
def mNil : Fr → S → R (List D) := fun _ s => .ok [] s
def mCons (m : Fr → S → R D) (ms : Fr → S → R (List D)) : Fr → S → R (List D) := fun env s => (m env s).bind fun d s1 => (ms env s1).bind fun ds s2 => .ok (d :: ds) s2
theorem ma_nil : MA X W [] mNil := ⟨_, pa_nil, fun G H io env σ s Q re rp h => h.now rp (by simp only [RVs])⟩
theorem ma_cons {e : Expr} {es : List Expr} {m : Fr → S → R D} {ms : Fr → S → R (List D)} (h1 : ME X W e m) (h2 : MA X W es ms) (hs : starEach (e :: es) X.env = (false, eval e X.env) :: starEach es X.env := by rfl) : MA X W (e :: es) (mCons m ms) := by
  obtain ⟨t, p, q⟩ := h1.h
  obtain ⟨u, p', q'⟩ := h2.h
  refine ⟨_, pa_cons p p' hs, fun G H io env σ s Q re rp h => q G H io env σ s _ re rp (Po.bind h fun d s1 G1 H1 io1 v e1 rp1 rv h => ?_)⟩
  refine q' G1 H1 io1 env σ s1 _ (re.ext e1) rp1 (Po.bind h fun ds s2 G2 H2 io2 vs e2 rp2 rvs h => ?_)
  exact h.now rp2 (RVs.cons (rv.ext e2) rvs)
/-! ### two-place operations, by values -/
structure MO (X : Cx) (f : Value → Value → Sem Value) (g : D → D → S → R D) : Prop where
  h : ∃ r, OpR X f r ∧ ∀ (G H : Hp) (io : List Addr) (s : S) (x y : D) (u v : V) (Q : VK) (E : XK), Rp X.mg G H io s → RV X.mg G io x u → RV X.mg G io y v → PoV X.mg G H io (g x y s) Q E → r u v H Q
def mOp (g : D → D → S → R D) (a b : Fr → S → R D) : Fr → S → R D := fun env s => (a env s).bind fun x s1 => (b env s1).bind fun y s2 => g x y s2
theorem me_bin {a b : Expr} {op : Operator} {g : D → D → S → R D} {ma mb : Fr → S → R D} {pos : Pos} (ho : MO X (binaryOp op) g) (ha : ME X W a ma) (hb : ME X W b mb) : ME X W (.BinOp a op b pos) (mOp g ma mb) := by
  obtain ⟨r, ho, hr⟩ := ho.h
  obtain ⟨t, p, q⟩ := ha.h
  obtain ⟨u, p', q'⟩ := hb.h
  refine ⟨_, pe_op ho p p', fun G H io env σ s Q re rp h => q G H io env σ s _ re rp (Po.bind h fun x s1 G1 H1 io1 v e1 rp1 rv h => ?_)⟩
  refine q' G1 H1 io1 env σ s1 _ (re.ext e1) rp1 (Po.bind h fun y s2 G2 H2 io2 w e2 rp2 rw' h => ?_)
  exact hr G2 H2 io2 s2 x y v w Q _ rp2 (rv.ext e2) rw' h
theorem me_cmp {a b : Expr} {op : CmpOp} {g : D → D → S → R D} {ma mb : Fr → S → R D} {pos : Pos} (ho : MO X (compareOp op) g) (ha : ME X W a ma) (hb : ME X W b mb) (hm : behindInMarks op b = false := by first | exact nobehind _ (by decide) (by decide) | rfl) : ME X W (.Compare a [op] [b] pos) (mOp g ma mb) := by
  obtain ⟨r, ho, hr⟩ := ho.h
  obtain ⟨t, p, q⟩ := ha.h
  obtain ⟨u, p', q'⟩ := hb.h
  refine ⟨_, pe_cmpR ho p p' hm, fun G H io env σ s Q re rp h => q G H io env σ s _ re rp (Po.bind h fun x s1 G1 H1 io1 v e1 rp1 rv h => ?_)⟩
  refine q' G1 H1 io1 env σ s1 _ (re.ext e1) rp1 (Po.bind h fun y s2 G2 H2 io2 w e2 rp2 rw' h => ?_)
  exact hr G2 H2 io2 s2 x y v w Q _ rp2 (rv.ext e2) rw' h
/-- a value as a truth -/
def asB (d : D) (s : S) : R Bool := match d with
  | .bl b => .ok b s
  | _ => .bad
def mB (m : Fr → S → R D) : Fr → S → R Bool := fun env s => (m env s).bind asB
theorem asB_po {G H : Hp} {io : List Addr} {mg : MG} {d : D} {s : S} {v : V} {Q : Bool → Hp → Prop} {E : XK} (rp : Rp mg G H io s) (rv : RV mg G io d v) (h : PoB mg G H io (asB d s) Q E) : ∃ c, v = .bl c ∧ Q c H := by
  cases d <;> first | exact h.elim | skip
  simp only [RV] at rv
  exact ⟨_, rv, h.now rp rfl⟩
theorem mt_cmp {a b : Expr} {op : CmpOp} {g : D → D → S → R D} {ma mb : Fr → S → R D} {pos : Pos} (ho : MO X (compareOp op) g) (ha : ME X W a ma) (hb : ME X W b mb) (hm : behindInMarks op b = false := by first | exact nobehind _ (by decide) (by decide) | rfl) : MT X W (.Compare a [op] [b] pos) (mB (mOp g ma mb)) := by
  obtain ⟨r, ho, hr⟩ := ho.h
  obtain ⟨t, p, q⟩ := ha.h
  obtain ⟨u, p', q'⟩ := hb.h
  refine ⟨_, pt_cmpR ho p p' hm, fun G H io env σ s Q re rp h => ?_⟩
  have h' : PoB X.mg G H io ((ma env s).bind fun x s1 => ((mb env s1).bind fun y s2 => g x y s2).bind asB) Q (WAt W σ) := by
    unfold mB mOp at h
    cases c : ma env s <;> rw [c] at h <;> exact h
  refine q G H io env σ s _ re rp (Po.bind h' fun x s1 G1 H1 io1 v e1 rp1 rv h => ?_)
  have h2 : PoB X.mg G1 H1 io1 ((mb env s1).bind fun y s2 => (g x y s2).bind asB) Q (WAt W σ) := by
    cases c : mb env s1 <;> rw [c] at h <;> exact h
  refine q' G1 H1 io1 env σ s1 _ (re.ext e1) rp1 (Po.bind h2 fun y s2 G2 H2 io2 w e2 rp2 rw' h => ?_)
  refine hr G2 H2 io2 s2 x y v w _ _ rp2 (rv.ext e2) rw' (Po.bind h fun z s3 G3 H3 io3 c e3 rp3 rc h => ?_)
  exact asB_po rp3 rc h
/-- a, b, c with two comparisons -/
def mChain (g g' : D → D → S → R D) (a b c : Fr → S → R D) : Fr → S → R D := fun env s => (a env s).bind fun x s1 => (b env s1).bind fun y s2 => (g x y s2).bind fun z s3 => (asB z s3).bind fun k s4 => if k = true then (c env s4).bind fun w s5 => g' y w s5 else .ok (.bl false) s4
theorem chain_po {g g' : D → D → S → R D} {r r' : R2} {ta tb tc : TE} {ma mb mc : Fr → S → R D} {G H : Hp} {io : List Addr} {env : Fr} {σ : L2.St} {s : S} {Q : VK} (re : RE X.mg G io env σ) (rp : Rp X.mg G H io s)
    (hr : ∀ (G H : Hp) (io : List Addr) (s : S) (x y : D) (u v : V) (Q : VK) (E : XK), Rp X.mg G H io s → RV X.mg G io x u → RV X.mg G io y v → PoV X.mg G H io (g x y s) Q E → r u v H Q)
    (hr' : ∀ (G H : Hp) (io : List Addr) (s : S) (x y : D) (u v : V) (Q : VK) (E : XK), Rp X.mg G H io s → RV X.mg G io x u → RV X.mg G io y v → PoV X.mg G H io (g' x y s) Q E → r' u v H Q)
    (qa : ∀ (G H : Hp) (io : List Addr) (env : Fr) (σ : L2.St) (s : S) (Q : VK), RE X.mg G io env σ → Rp X.mg G H io s → PoV X.mg G H io (ma env s) Q (WAt W σ) → ta σ H Q)
    (qb : ∀ (G H : Hp) (io : List Addr) (env : Fr) (σ : L2.St) (s : S) (Q : VK), RE X.mg G io env σ → Rp X.mg G H io s → PoV X.mg G H io (mb env s) Q (WAt W σ) → tb σ H Q)
    (qc : ∀ (G H : Hp) (io : List Addr) (env : Fr) (σ : L2.St) (s : S) (Q : VK), RE X.mg G io env σ → Rp X.mg G H io s → PoV X.mg G H io (mc env s) Q (WAt W σ) → tc σ H Q)
    (h : PoV X.mg G H io (mChain g g' ma mb mc env s) Q (WAt W σ)) : tChain r r' ta tb tc σ H Q := by
  refine qa G H io env σ s _ re rp (Po.bind h fun x s1 G1 H1 io1 v e1 rp1 rv h => ?_)
  refine qb G1 H1 io1 env σ s1 _ (re.ext e1) rp1 (Po.bind h fun y s2 G2 H2 io2 w e2 rp2 rw' h => ?_)
  refine hr G2 H2 io2 s2 x y v w _ _ rp2 (rv.ext e2) rw' (Po.bind h fun z s3 G3 H3 io3 c e3 rp3 rc h => ?_)
  have h' : ∃ k, z = .bl k := by
    cases z <;> first | exact h.elim | exact ⟨_, rfl⟩
  obtain ⟨k, rfl⟩ := h'
  simp only [RV] at rc
  refine ⟨k, rc, ?_⟩
  cases k with
  | false => exact h.now rp3 (by simp only [RV])
  | true =>
    refine qc G3 H3 io3 env σ s3 _ ((re.ext e1).ext (e2.trans e3)) rp3 (Po.bind h fun w2 s5 G5 H5 io5 v5 e5 rp5 rv5 h => ?_)
    exact hr' G5 H5 io5 s5 y w2 w v5 Q _ rp5 (rw'.ext (e3.trans e5)) rv5 h
theorem me_chain {a b c : Expr} {op op' : CmpOp} {g g' : D → D → S → R D} {ma mb mc : Fr → S → R D} {pos : Pos} (ho : MO X (compareOp op) g) (ho' : MO X (compareOp op') g') (ha : ME X W a ma) (hb : ME X W b mb) (hc : ME X W c mc)
    (hm : lastMarks [op, op'] [b, c] = false := by with_unfolding_all rfl) : ME X W (.Compare a [op, op'] [b, c] pos) (mChain g g' ma mb mc) := by
  obtain ⟨r, ho, hr⟩ := ho.h
  obtain ⟨r', ho', hr'⟩ := ho'.h
  obtain ⟨ta, pa, qa⟩ := ha.h
  obtain ⟨tb, pb, qb⟩ := hb.h
  obtain ⟨tc, pc, qc⟩ := hc.h
  exact ⟨_, pe_chain ho ho' pa pb pc hm, fun G H io env σ s Q re rp h => chain_po re rp hr hr' qa qb qc h⟩
theorem mt_chain {a b c : Expr} {op op' : CmpOp} {g g' : D → D → S → R D} {ma mb mc : Fr → S → R D} {pos : Pos} (ho : MO X (compareOp op) g) (ho' : MO X (compareOp op') g') (ha : ME X W a ma) (hb : ME X W b mb) (hc : ME X W c mc)
    (hm : lastMarks [op, op'] [b, c] = false := by with_unfolding_all rfl) : MT X W (.Compare a [op, op'] [b, c] pos) (mB (mChain g g' ma mb mc)) := by
  obtain ⟨r, ho, hr⟩ := ho.h
  obtain ⟨r', ho', hr'⟩ := ho'.h
  obtain ⟨ta, pa, qa⟩ := ha.h
  obtain ⟨tb, pb, qb⟩ := hb.h
  obtain ⟨tc, pc, qc⟩ := hc.h
  refine ⟨_, pt_chain ho ho' pa pb pc hm, fun G H io env σ s Q re rp h => chain_po re rp hr hr' qa qb qc ?_⟩
  exact Po.bind (rel := RV X.mg) h fun z s1 G1 H1 io1 v e1 rp1 rv h => asB_po rp1 rv h
/-! ### and, or, not -/
def mAnd (a b : Fr → S → R Bool) : Fr → S → R Bool := fun env s => (a env s).bind fun c s1 => if c = true then b env s1 else .ok false s1
def mOr (a b : Fr → S → R Bool) : Fr → S → R Bool := fun env s => (a env s).bind fun c s1 => if c = true then .ok true s1 else b env s1
def mNot (a : Fr → S → R Bool) : Fr → S → R Bool := fun env s => (a env s).bind fun c s1 => .ok (!c) s1
def mV (a : Fr → S → R Bool) : Fr → S → R D := fun env s => (a env s).bind fun c s1 => .ok (.bl c) s1
section
variable {a b : Expr} {rest : List Expr} {pos : Pos} {ma mb : Fr → S → R Bool}
theorem mw_and1 (ha : MT X W a ma) : MW X W (.BoolOp .And [a] pos) ma := by
  obtain ⟨t, p, q⟩ := ha.h
  exact ⟨t, pw_and1 p, q⟩
theorem mw_or1 (ha : MT X W a ma) : MW X W (.BoolOp .Or [a] pos) ma := by
  obtain ⟨t, p, q⟩ := ha.h
  exact ⟨t, pw_or1 p, q⟩
theorem mw_and (ha : MT X W a ma) (hb : MW X W (.BoolOp .And (b :: rest) pos) mb) : MW X W (.BoolOp .And (a :: b :: rest) pos) (mAnd ma mb) := by
  obtain ⟨t, p, q⟩ := ha.h
  obtain ⟨u, p', q'⟩ := hb.h
  refine ⟨_, pw_and p p', fun G H io env σ s Q re rp h => q G H io env σ s _ re rp (Po.bind h fun x s1 G1 H1 io1 v e1 rp1 rv h => ?_)⟩
  subst rv
  cases x with
  | true => exact q' G1 H1 io1 env σ s1 Q (re.ext e1) rp1 h
  | false => exact h.now rp1 rfl
theorem mw_or (ha : MT X W a ma) (hb : MW X W (.BoolOp .Or (b :: rest) pos) mb) : MW X W (.BoolOp .Or (a :: b :: rest) pos) (mOr ma mb) := by
  obtain ⟨t, p, q⟩ := ha.h
  obtain ⟨u, p', q'⟩ := hb.h
  refine ⟨_, pw_or p p', fun G H io env σ s Q re rp h => q G H io env σ s _ re rp (Po.bind h fun x s1 G1 H1 io1 v e1 rp1 rv h => ?_)⟩
  subst rv
  cases x with
  | false => exact q' G1 H1 io1 env σ s1 Q (re.ext e1) rp1 h
  | true => exact h.now rp1 rfl
theorem mt_not (ha : MT X W a ma) : MT X W (.UnaryOp .Not a pos) (mNot ma) := by
  obtain ⟨t, p, q⟩ := ha.h
  refine ⟨_, pt_not p, fun G H io env σ s Q re rp h => q G H io env σ s _ re rp (Po.bind h fun x s1 G1 H1 io1 v e1 rp1 rv h => ?_)⟩
  subst rv
  exact h.now rp1 rfl
/-- an expression that is a truth, as a test -/
theorem mt_val {m : Fr → S → R D} (h : ME X W a m) (he : ∀ whole, isTrue a X.env whole = (do let v ← whole; standAt a.pos; holding [v] (truthy v)) := by intro _; rfl) : MT X W a (mB m) := by
  obtain ⟨t, p, q⟩ := h.h
  refine ⟨_, pt_val p he, fun G H io env σ s Q re rp h => q G H io env σ s _ re rp (Po.bind h fun x s1 G1 H1 io1 v e1 rp1 rv h => ?_)⟩
  exact asB_po rp1 rv h
end
section
variable {a b : Expr} {rest : List Expr} {pos : Pos} {ma mb : Fr → S → R D}
def mAndV (a b : Fr → S → R D) : Fr → S → R D := fun env s => (a env s).bind fun x s1 => (asB x s1).bind fun c s2 => if c = true then b env s2 else .ok (.bl false) s2
def mOrV (a b : Fr → S → R D) : Fr → S → R D := fun env s => (a env s).bind fun x s1 => (asB x s1).bind fun c s2 => if c = true then .ok (.bl true) s2 else b env s2
def mNotV (a : Fr → S → R D) : Fr → S → R D := fun env s => (a env s).bind fun x s1 => (asB x s1).bind fun c s2 => .ok (.bl (!c)) s2
theorem asB_is {mg : MG} {α β : Type} {rel : Hp → List Addr → α → β → Prop} {G H : Hp} {io : List Addr} {d : D} {s : S} {f : Bool → S → R α} {Q : β → Hp → Prop} {E : XK} (h : Po rel mg G H io ((asB d s).bind f) Q E) : ∃ b, d = .bl b ∧ Po rel mg G H io (f b s) Q E := by
  cases d <;> first | exact h.elim | exact ⟨_, rfl, h⟩
theorem me_one {op} (h : ME X W a ma) : ME X W (.BoolOp op [a] pos) ma := by
  obtain ⟨t, p, q⟩ := h.h
  exact ⟨t, pe_one p, q⟩
theorem me_and (ha : ME X W a ma) (hb : ME X W (.BoolOp .And (b :: rest) pos) mb) : ME X W (.BoolOp .And (a :: b :: rest) pos) (mAndV ma mb) := by
  obtain ⟨t, p, q⟩ := ha.h
  obtain ⟨u, p', q'⟩ := hb.h
  refine ⟨_, pe_and p p', fun G H io env σ s Q re rp h => q G H io env σ s _ re rp (Po.bind h fun x s1 G1 H1 io1 v e1 rp1 rv h => ?_)⟩
  obtain ⟨c, rfl, h⟩ := asB_is h
  simp only [RV] at rv
  refine ⟨c, rv, ?_⟩
  cases c with
  | true => exact q' G1 H1 io1 env σ s1 Q (re.ext e1) rp1 h
  | false => exact h.now rp1 (by simp only [RV])
theorem me_or (ha : ME X W a ma) (hb : ME X W (.BoolOp .Or (b :: rest) pos) mb) : ME X W (.BoolOp .Or (a :: b :: rest) pos) (mOrV ma mb) := by
  obtain ⟨t, p, q⟩ := ha.h
  obtain ⟨u, p', q'⟩ := hb.h
  refine ⟨_, pe_or p p', fun G H io env σ s Q re rp h => q G H io env σ s _ re rp (Po.bind h fun x s1 G1 H1 io1 v e1 rp1 rv h => ?_)⟩
  obtain ⟨c, rfl, h⟩ := asB_is h
  simp only [RV] at rv
  refine ⟨c, rv, ?_⟩
  cases c with
  | false => exact q' G1 H1 io1 env σ s1 Q (re.ext e1) rp1 h
  | true => exact h.now rp1 (by simp only [RV])
theorem me_not (ha : ME X W a ma) : ME X W (.UnaryOp .Not a pos) (mNotV ma) := by
  obtain ⟨t, p, q⟩ := ha.h
  refine ⟨_, pe_not p, fun G H io env σ s Q re rp h => q G H io env σ s _ re rp (Po.bind h fun x s1 G1 H1 io1 v e1 rp1 rv h => ?_)⟩
  obtain ⟨c, rfl, h⟩ := asB_is h
  simp only [RV] at rv
  exact ⟨c, rv, h.now rp1 (by simp only [RV])⟩
def mIf (c : Fr → S → R Bool) (a b : Fr → S → R D) : Fr → S → R D := fun env s => (c env s).bind fun k s1 => if k = true then a env s1 else b env s1
theorem me_if {c : Expr} {mc : Fr → S → R Bool} (hc : MT X W c mc) (ha : ME X W a ma) (hb : ME X W b mb) : ME X W (.IfExp c a b pos) (mIf mc ma mb) := by
  obtain ⟨tc, pc, qc⟩ := hc.h
  obtain ⟨t, p, q⟩ := ha.h
  obtain ⟨u, p', q'⟩ := hb.h
  refine ⟨_, pe_ifExp pc p p', fun G H io env σ s Q re rp h => qc G H io env σ s _ re rp (Po.bind h fun x s1 G1 H1 io1 v e1 rp1 rv h => ?_)⟩
  subst rv
  cases x with
  | true => exact q G1 H1 io1 env σ s1 Q (re.ext e1) rp1 h
  | false => exact q' G1 H1 io1 env σ s1 Q (re.ext e1) rp1 h
end
/-! ### new lists and tuples -/
def mkF (zs : List D) (s : S) : R D := if zs.length ≤ sizeLine then .ok (.lst zs) s else .bad
def mkC (zs : List D) (s : S) : R D := if zs.length ≤ sizeLine then .ok (.ref s.length) (s ++ [.lst zs]) else .bad
def mkT (zs : List D) (s : S) : R D := if zs.length ≤ sizeLine then .ok (.tup zs) s else .bad
structure Mk (mk : List D → S → R D) : Prop where
  sz : ∀ (zs : List D) (s : S), sizeLine < zs.length → mk zs s = .bad
  h : ∀ (mg : MG) (G H : Hp) (io : List Addr) (s : S) (zs : List D) (vs : List V) (Q : VK) (E : XK), Rp mg G H io s → RVs mg G io zs vs → PoV mg G H io (mk zs s) Q E → zs.length ≤ sizeLine ∧ ∀ p, H p = none → Q (.ref p) (upd H p (.lst vs))
theorem mk_f : Mk mkF := ⟨fun zs s h => if_neg (Nat.not_le.mpr h), fun mg G H io s zs vs Q E rp rv h => by
  unfold mkF at h
  split at h
  · rename_i hl
    refine ⟨hl, fun p hp => h _ _ _ _ (rp.stillE (o := .lst vs) hp) (rp.still hp) ?_⟩
    simp only [RV]
    exact ⟨p, vs, rfl, upd_same, rv.ext (rp.stillE hp)⟩
  · exact h.elim⟩
theorem mk_c : Mk mkC := ⟨fun zs s h => if_neg (Nat.not_le.mpr h), fun mg G H io s zs vs Q E rp rv h => by
  unfold mkC at h
  split at h
  · rename_i hl
    refine ⟨hl, fun p hp => h _ _ _ _ (rp.freshE (o := .lst vs) hp) (rp.fresh hp ⟨vs, upd_same, rv.ext (rp.freshE (o := .lst vs) hp)⟩) ?_⟩
    simp only [RV]
    refine ⟨p, rfl, ?_⟩
    rw [← rp.len, List.getElem?_append_right (Nat.le_refl _), Nat.sub_self]
    rfl
  · exact h.elim⟩
theorem mk_t {mg : MG} {G H : Hp} {io : List Addr} {s : S} {zs : List D} {vs : List V} {Q : VK} {E : XK} (rp : Rp mg G H io s) (rv : RVs mg G io zs vs) (h : PoV mg G H io (mkT zs s) Q E) : zs.length ≤ sizeLine ∧ ∀ p, H p = none → Q (.ref p) (upd H p (.tup vs)) := by
  unfold mkT at h
  split at h
  · rename_i hl
    refine ⟨hl, fun p hp => h _ _ _ _ (rp.stillE (o := .tup vs) hp) (rp.still hp) ?_⟩
    simp only [RV]
    exact ⟨p, vs, rfl, upd_same, rv.ext (rp.stillE hp)⟩
  · exact h.elim
def mDisp (mk : List D → S → R D) (ms : Fr → S → R (List D)) : Fr → S → R D := fun env s => (ms env s).bind mk
theorem me_lst {es : List Expr} {ms : Fr → S → R (List D)} {pos : Pos} {mk : List D → S → R D} (hk : Mk mk) (h : MA X W es ms) : ME X W (.List es pos) (mDisp mk ms) := by
  obtain ⟨t, p, q⟩ := h.h
  refine ⟨_, pe_lst p, fun G H io env σ s Q re rp h => q G H io env σ s _ re rp (Po.bind h fun x s1 G1 H1 io1 v e1 rp1 rv h => ?_)⟩
  obtain ⟨h1, h2⟩ := hk.h _ _ _ _ _ _ _ _ _ rp1 rv h
  exact ⟨by rw [rv.len]; exact h1, h2⟩
theorem me_tup {es : List Expr} {ms : Fr → S → R (List D)} {x1} {pos : Pos} (h : MA X W es ms) : ME X W (.Tuple es x1 pos) (mDisp mkT ms) := by
  obtain ⟨t, p, q⟩ := h.h
  refine ⟨_, pe_tup p, fun G H io env σ s Q re rp h => q G H io env σ s _ re rp (Po.bind h fun x s1 G1 H1 io1 v e1 rp1 rv h => ?_)⟩
  obtain ⟨h1, h2⟩ := mk_t rp1 rv h
  exact ⟨by rw [rv.len]; exact h1, h2⟩
end Mi

set_option Elab.async false
set_option linter.all false
set_option maxRecDepth 100000
/-! Statements, calls of own defs, a def's rule, the sealing of what a def has made. -/
namespace Mi
open PySem PySem.Spec PyProof.Rows L2
inductive T where
  | nx (e : Fr) (s : S) | rt (d : D) (s : S) | bk (e : Fr) (s : S) | ct (e : Fr) (s : S) | ex (x : Ex) (e : Fr) (s : S) | bad
def PoT (mg : MG) (W : WX) (G H : Hp) (io : List Addr) (t : T) (D : Ends) : Prop := match t with
  | .nx e s' => ∀ G' H' io' σ', Ext G H io G' H' io' → Rp mg G' H' io' s' → RE mg G' io' e σ' → D.nx σ' H'
  | .bk e s' => ∀ G' H' io' σ', Ext G H io G' H' io' → Rp mg G' H' io' s' → RE mg G' io' e σ' → D.bk σ' H'
  | .ct e s' => ∀ G' H' io' σ', Ext G H io G' H' io' → Rp mg G' H' io' s' → RE mg G' io' e σ' → D.ct σ' H'
  | .rt d s' => ∀ G' H' io' v, Ext G H io G' H' io' → Rp mg G' H' io' s' → RV mg G' io' d v → D.rt v H'
  | .ex x e s' => ∀ G' H' io' σ' C dx, Ext G H io G' H' io' → Rp mg G' H' io' s' → RE mg G' io' e σ' → RX mg G' H' io' x C dx → W C dx σ' H'
  | .bad => False
section
variable {mg : MG} {W : WX} {G H G' H' : Hp} {io io' : List Addr} {t : T} {D : Ends}
theorem PoT.ext (e : Ext G H io G' H' io') (h : PoT mg W G H io t D) : PoT mg W G' H' io' t D := by
  cases t with
  | nx _ _ => exact fun _ _ _ b x => h _ _ _ b (e.trans x)
  | bk _ _ => exact fun _ _ _ b x => h _ _ _ b (e.trans x)
  | ct _ _ => exact fun _ _ _ b x => h _ _ _ b (e.trans x)
  | rt _ _ => exact fun _ _ _ b x => h _ _ _ b (e.trans x)
  | ex _ _ _ => exact fun _ _ _ b C dx x => h _ _ _ b C dx (e.trans x)
  | bad => exact h
end
structure MS (X : Cx) (W : WX) (st : Stmt) (m : Fr → S → T) : Prop where
  h : ∃ t, PS X st t ∧ ∀ (G H : Hp) (io : List Addr) (env : Fr) (σ : L2.St) (s : S) (D : Ends), RE X.mg G io env σ → Rp X.mg G H io s → PoT X.mg W G H io (m env s) D → t D σ H
structure MSs (X : Cx) (W : WX) (st : List Stmt) (m : Fr → S → T) : Prop where
  h : ∃ t, PSs X st t ∧ ∀ (G H : Hp) (io : List Addr) (env : Fr) (σ : L2.St) (s : S) (D : Ends), RE X.mg G io env σ → Rp X.mg G H io s → PoT X.mg W G H io (m env s) D → t D σ H
variable {X : Cx} {W : WX}
/-- an expression's result, then a statement's -/
def R.go {α : Type} (r : R α) (env : Fr) (f : α → S → T) : T := match r with
  | .ok a s => f a s
  | .ex x s => .ex x env s
  | .bad => .bad
@[simp] theorem R.go_ok {α : Type} (a : α) (s : S) (env : Fr) (f : α → S → T) : (R.ok a s).go env f = f a s := rfl
@[simp] theorem R.go_ex {α : Type} (x : Ex) (s : S) (env : Fr) (f : α → S → T) : (R.ex x s).go env f = .ex x env s := rfl
@[simp] theorem R.go_bad {α : Type} (env : Fr) (f : α → S → T) : (R.bad).go env f = .bad := rfl
theorem PoT.go {α β : Type} {rel : Hp → List Addr → α → β → Prop} {mg : MG} {G H : Hp} {io : List Addr} {r : R α} {env : Fr} {σ : L2.St} {f : α → S → T} {D : Ends} {K : β → Hp → Prop} (re : RE mg G io env σ) (h : PoT mg W G H io (r.go env f) D)
    (k : ∀ a s1 G1 H1 io1 b, Ext G H io G1 H1 io1 → Rp mg G1 H1 io1 s1 → rel G1 io1 a b → PoT mg W G1 H1 io1 (f a s1) D → K b H1) : Po rel mg G H io r K (WAt W σ) := by
  cases r with
  | ok a s => exact fun G1 H1 io1 b e p q => k a s G1 H1 io1 b e p q (PoT.ext e h)
  | ex x s => exact fun G1 H1 io1 C dx e p q => h G1 H1 io1 σ C dx e p (re.ext e) q
  | bad => exact h
/-- one statement's result, then the next one -/
def T.then (t : T) (f : Fr → S → T) : T := match t with
  | .nx e s => f e s
  | .rt d s => .rt d s
  | .bk e s => .bk e s
  | .ct e s => .ct e s
  | .ex x e s => .ex x e s
  | .bad => .bad
@[simp] theorem T.then_nx (e : Fr) (s : S) (f : Fr → S → T) : (T.nx e s).then f = f e s := rfl
@[simp] theorem T.then_rt (e : D) (s : S) (f : Fr → S → T) : (T.rt e s).then f = .rt e s := rfl
@[simp] theorem T.then_bk (e : Fr) (s : S) (f : Fr → S → T) : (T.bk e s).then f = .bk e s := rfl
@[simp] theorem T.then_ct (e : Fr) (s : S) (f : Fr → S → T) : (T.ct e s).then f = .ct e s := rfl
@[simp] theorem T.then_ex (x : Ex) (e : Fr) (s : S) (f : Fr → S → T) : (T.ex x e s).then f = .ex x e s := rfl
@[simp] theorem T.then_bad (f : Fr → S → T) : (T.bad).then f = .bad := rfl
theorem PoT.then {mg : MG} {G H : Hp} {io : List Addr} {t : T} {f : Fr → S → T} {D : Ends} {N : L2.St → Hp → Prop} (h : PoT mg W G H io (t.then f) D)
    (k : ∀ e s1 G1 H1 io1 σ1, Ext G H io G1 H1 io1 → Rp mg G1 H1 io1 s1 → RE mg G1 io1 e σ1 → PoT mg W G1 H1 io1 (f e s1) D → N σ1 H1) : PoT mg W G H io t { D with nx := N } := by
  cases t with
  | nx e s => exact fun G1 H1 io1 σ1 x p q => k e s G1 H1 io1 σ1 x p q (PoT.ext x h)
  | bk _ _ => exact h
  | ct _ _ => exact h
  | rt _ _ => exact h
  | ex _ _ _ => exact h
  | bad => exact h
/-! ### statements -/
def mSeq (a b : Fr → S → T) : Fr → S → T := fun env s => (a env s).then b
def mNext : Fr → S → T := fun env s => .nx env s
section
variable {st : Stmt} {rest : List Stmt} {e : Expr} {pos : Pos} {m n : Fr → S → T} {me : Fr → S → R D}
theorem mss_nil : MSs X W [] mNext := ⟨_, pss_nil, fun G H io env σ s D re rp h => h G H io σ Ext.refl rp re⟩
theorem mss_cons (h1 : MS X W st m) (h2 : MSs X W rest n) : MSs X W (st :: rest) (mSeq m n) := by
  obtain ⟨t, p, q⟩ := h1.h
  obtain ⟨u, p', q'⟩ := h2.h
  refine ⟨_, pss_cons p p', fun G H io env σ s D re rp h => q G H io env σ s _ re rp (PoT.then h fun e s1 G1 H1 io1 σ1 e1 rp1 re1 h => ?_)⟩
  exact q' G1 H1 io1 e σ1 s1 D re1 rp1 h
theorem mss_one (h1 : MS X W st m) : MSs X W [st] m := by
  obtain ⟨t, p, q⟩ := h1.h
  exact ⟨_, pss_one p, q⟩
theorem ms_pass : MS X W (.Pass pos) mNext := ⟨_, ps_pass, fun G H io env σ s D re rp h => h G H io σ Ext.refl rp re⟩
def mBreak : Fr → S → T := fun env s => .bk env s
def mCont : Fr → S → T := fun env s => .ct env s
theorem ms_break : MS X W (.Break pos) mBreak := ⟨_, ps_break, fun G H io env σ s D re rp h => h G H io σ Ext.refl rp re⟩
theorem ms_continue : MS X W (.Continue pos) mCont := ⟨_, ps_continue, fun G H io env σ s D re rp h => h G H io σ Ext.refl rp re⟩
def mExpr (me : Fr → S → R D) : Fr → S → T := fun env s => (me env s).go env fun _ s1 => .nx env s1
theorem ms_expr (he : ME X W e me) (hs : swapsWith e none pos.line X.env = pure false := by rfl) : MS X W (.Expr e pos) (mExpr me) := by
  obtain ⟨t, p, q⟩ := he.h
  refine ⟨_, ps_expr p hs, fun G H io env σ s D re rp h => q G H io env σ s _ re rp (PoT.go re h fun d s1 G1 H1 io1 v e1 rp1 rv h => ?_)⟩
  exact h G1 H1 io1 σ Ext.refl rp1 (re.ext e1)
def mRet (me : Fr → S → R D) : Fr → S → T := fun env s => (me env s).go env fun d s1 => .rt d s1
theorem ms_ret (he : ME X W e me) : MS X W (.Return (some e) pos) (mRet me) := by
  obtain ⟨t, p, q⟩ := he.h
  refine ⟨_, ps_ret p, fun G H io env σ s D re rp h => q G H io env σ s _ re rp (PoT.go re h fun d s1 G1 H1 io1 v e1 rp1 rv h => ?_)⟩
  exact h G1 H1 io1 v Ext.refl rp1 rv
def mRetN : Fr → S → T := fun _ s => .rt .non s
theorem ms_retN : MS X W (.Return none pos) mRetN := ⟨_, ps_retN, fun G H io env σ s D re rp h => h G H io .non Ext.refl rp (by simp only [RV])⟩
def mIfS (c : Fr → S → R Bool) (a b : Fr → S → T) : Fr → S → T := fun env s => (c env s).go env fun k s1 => if k = true then a env s1 else b env s1
theorem ms_if {c : Expr} {a b : List Stmt} {mc : Fr → S → R Bool} {ma mb : Fr → S → T} (hc : MT X W c mc) (ha : MSs X W a ma) (hb : MSs X W b mb) : MS X W (.If c a b pos) (mIfS mc ma mb) := by
  obtain ⟨tc, pc, qc⟩ := hc.h
  obtain ⟨t, p, q⟩ := ha.h
  obtain ⟨u, p', q'⟩ := hb.h
  refine ⟨_, ps_if pc p p', fun G H io env σ s D re rp h => qc G H io env σ s _ re rp (PoT.go re h fun k s1 G1 H1 io1 v e1 rp1 rv h => ?_)⟩
  subst rv
  cases k with
  | true => exact q G1 H1 io1 env σ s1 D (re.ext e1) rp1 h
  | false => exact q' G1 H1 io1 env σ s1 D (re.ext e1) rp1 h
def mSet (i : Nat) (me : Fr → S → R D) : Fr → S → T := fun env s => (me env s).go env fun d s1 => .nx (env.set i (some d)) s1
theorem ms_set (i : Nat) {x : Str} {pos' : Pos} (hN : X.N.Nodup) (hi : X.N[i]? = some x) (hx : Loc X.env.scope x) (he : ME X W e me) (hs : swapsWith e (some (.Name x pos')) pos.line X.env = pure false := by rfl) (hf : X.fn x = true ∨ X.env.scope.names.lookup x = some .local := by first | exact .inl rfl | exact .inr rfl | assumption) :
    MS X W (.Assign [.Name x pos'] e pos) (mSet i me) := by
  obtain ⟨t, p, q⟩ := he.h
  refine ⟨_, ps_set hN hi hx p hs hf, fun G H io env σ s D re rp h => q G H io env σ s _ re rp (PoT.go re h fun d s1 G1 H1 io1 v e1 rp1 rv h => ?_)⟩
  exact h G1 H1 io1 _ Ext.refl rp1 ((re.ext e1).set rv i)
end
/-! ### own defs -/
def SpM (mg : MG) (n : Nat) (m : List D → S → R D) : Sp := fun vs H Q E => ∃ (G : Hp) (io : List Addr) (s : S) (ds : List D), vs.length = n ∧ Rp mg G H io s ∧ RVs mg G io ds vs ∧ PoV mg G H io (m ds s) Q E
structure Fn (P : Program) (w : World) (K : PySem.W.Frag) (mg : MG) (base : Heap) (k : Nat) (x : Str) (n : Nat) (m : List D → S → R D) : Prop where
  h : ∃ (f : Addr) (fd : FuncData) (ps : List Str), FnOk P w K mg base (L2.CX P w) k f fd ps (SpM mg n m) ∧ mg x = some (.ref f) ∧ PySem.W.keepIn K (.ref f) = true ∧ Binds K fd ps []
theorem Fn.mono {P : Program} {w : World} {K : PySem.W.Frag} {mg : MG} {base : Heap} {j k : Nat} {x : Str} {n : Nat} {m : List D → S → R D} (F : Fn P w K mg base j x n m) (h : j ≤ k) : Fn P w K mg base k x n m := by
  obtain ⟨f, fd, ps, a, b, c, d⟩ := F.h
  exact ⟨f, fd, ps, a.mono h, b, c, d⟩
theorem Fn.imp {P : Program} {w : World} {K : PySem.W.Frag} {mg : MG} {base : Heap} {k : Nat} {x : Str} {n : Nat} {m m' : List D → S → R D} (F : Fn P w K mg base k x n m)
    (h : ∀ (G H : Hp) (io : List Addr) (s : S) (ds : List D) (Q : VK) (E : XK), ds.length = n → Rp mg G H io s → PoV mg G H io (m' ds s) Q E → PoV mg G H io (m ds s) Q E) : Fn P w K mg base k x n m' := by
  obtain ⟨f, fd, ps, a, b, c, d⟩ := F.h
  exact ⟨f, fd, ps, a.imp fun vs H Q E ⟨G, io, s, ds, hl, rp, rv, po⟩ => ⟨G, io, s, ds, hl, rp, rv, h G H io s ds Q E (by rw [← rv.len, hl]) rp po⟩, b, c, d⟩
def mCall (m : List D → S → R D) (ms : Fr → S → R (List D)) : Fr → S → R D := fun env s => (ms env s).bind fun ds s1 => m ds s1
def hasLen (n : Nat) (ms : Fr → S → R (List D)) : Prop := ∀ env s ds s1, ms env s = .ok ds s1 → ds.length = n
theorem hasLen.nil : hasLen 0 mNil := fun env s ds s1 h => by cases h; rfl
theorem hasLen.cons {n : Nat} {m : Fr → S → R D} {ms : Fr → S → R (List D)} (h : hasLen n ms) : hasLen (n + 1) (mCons m ms) := fun env s ds s1 q => by
  unfold mCons at q
  cases c : m env s with
  | ok d s2 =>
    rw [c, R.bind_ok] at q
    cases c2 : ms env s2 with
    | ok ds' s4 =>
      rw [c2, R.bind_ok] at q
      cases q
      rw [List.length_cons, h env s2 ds' _ c2]
    | ex _ _ => rw [c2] at q; cases q
    | bad => rw [c2] at q; cases q
  | ex _ _ => rw [c] at q; cases q
  | bad => rw [c] at q; cases q
theorem me_call {k n : Nat} {x : Str} {m : List D → S → R D} {e : Expr} {es : List Expr} {ms : Fr → S → R (List D)} {p pos : Pos} (F : Fn X.prog X.w X.K X.mg X.base k x n m) (hr : Room k X.A) (hg : Gl X x) (tk : Takes X W) (ha : MA X W (e :: es) ms) (hl : hasLen n ms)
    (hdb : (x == ("__debug__" : Str)) = false := by decide) (he : starEach (e :: es) X.env = (false, eval e X.env) :: starEach es X.env := by rfl) (hpl : (backTo pos (starEach es X.env)).any (·.1) = false := by rfl) :
    ME X W (.Call (.Name x p) (e :: es) [] pos) (mCall m ms) := by
  obtain ⟨f, fd, ps, F, hm, hk, hb⟩ := F.h
  obtain ⟨t, pa, qa⟩ := ha.h
  refine ⟨_, pe_callS F hr hg hm hk hb (fun σ => passAt tk σ) pa hdb he hpl, fun G H io env σ s Q re rp h => ?_⟩
  refine qa G H io env σ s _ re rp ?_
  unfold mCall at h
  cases c : ms env s with
  | ok ds s1 =>
    rw [c] at h
    exact fun G1 H1 io1 vs e1 rp1 rv => ⟨G1, io1, s1, ds, by rw [rv.len]; exact hl env s ds s1 c, rp1, rv, Po.ext e1 h⟩
  | ex a b => rw [c] at h; exact h
  | bad => rw [c] at h; exact h
/-- a def of no arguments -/
theorem me_call0 {k : Nat} {x : Str} {m : List D → S → R D} {p pos : Pos} (F : Fn X.prog X.w X.K X.mg X.base k x 0 m) (hr : Room k X.A) (hg : Gl X x) (hx : ∀ E : XK, Passes (L2.CX X.prog X.w) X.nox E)
    (hdb : (x == ("__debug__" : Str)) = false := by decide) : True := trivial
/-! ### a def's rule -/
def endR (t : T) : R D := match t with
  | .rt d s => .ok d s
  | .nx _ s => .ok .non s
  | .ex x _ s => .ex x s
  | _ => .bad
def mFn (n N : Nat) (body : Fr → S → T) : List D → S → R D := fun ds s => if ds.length = n then endR (body (ds.map some ++ List.replicate (N - n) none) s) else .bad
theorem re_start {mg : MG} {G : Hp} {io : List Addr} {ds : List D} {vs : List V} (h : RVs mg G io ds vs) (k : Nat) : RE mg G io (ds.map some ++ List.replicate k none) (vs.map some ++ List.replicate k none) := by
  refine ⟨by simp only [List.length_append, List.length_map, h.len, List.length_replicate], fun i d q => ?_⟩
  by_cases hi : i < ds.length
  · rw [List.getElem?_append_left (by rw [List.length_map]; exact hi), List.getElem?_map] at q
    cases c : ds[i]? with
    | none => rw [c] at q; cases q
    | some d' =>
      rw [c] at q
      cases q
      obtain ⟨v, h1, h2⟩ := h.get c
      refine ⟨v, ?_, h2⟩
      rw [List.getElem?_append_left (by rw [List.length_map, h.len]; exact hi), List.getElem?_map, h1]
      rfl
  · rw [List.getElem?_append_right (by rw [List.length_map]; omega)] at q
    have := List.mem_of_getElem? q
    rw [List.mem_replicate] at this
    exact absurd this.2 (by simp)
variable {P : Program} {w : World} {K : PySem.W.Frag} {mg : MG} {base : Heap}
/-- E as a wish at slots -/
abbrev WE0 (E : XK) : WX := fun cls d _ H => E cls d H
theorem takesF {N : List Str} {qual : Str} {scope : Scope} {f : Addr} {cdv : Value} {A : Around} {outer : List Env} {s : Shared} {H : Hp} {E : XK} : Takes (cxOf (L2.CX P w) P w K mg base N qual scope f cdv A outer s H E) (WE0 E) := takes_of rfl rfl rfl rfl
theorem fn_def {x qual : Str} {st : Stmt} {f : Addr} {fd : FuncData} {N ps : List Str} {k : Nat} {body : Fr → S → T} (F : Fun K x qual st f fd) (hm : mg x = some (.ref f)) (hb : Binds K fd ps []) (Sc : FnScope N ps (defScope st))
    (h : ∀ (cdv : Value) (A : Around) (outer : List Env) (s : Shared) (H : Hp) (E : XK), Room k (A.deeper (envOfC qual (defScope st) s.heap.objs.size f cdv)) →
      MSs (cxOf (L2.CX P w) P w K mg base N qual (defScope st) f cdv A outer s H E) (WE0 E) (defBody st) body) : Fn P w K mg base (k + 1) x ps.length (mFn ps.length N.length body) := by
  refine ⟨f, fd, ps, F.okX Sc (fun vs H Q E ⟨_, _, _, _, hl, _⟩ => hl) (fun cdv A outer s H vs Q E hr ⟨G, io, s0, ds, hl, rp, rv, po⟩ => ?_), hm, F.kp, hb⟩
  obtain ⟨t, p, q⟩ := (h cdv A outer s H E hr).h
  refine ⟨t, p, q G H io (ds.map some ++ List.replicate (N.length - ps.length) none) _ s0 _ ?_ rp ?_⟩
  · show RE mg G io _ (vs.map some ++ List.replicate (N.length - vs.length) none)
    rw [hl]
    exact re_start rv _
  · unfold mFn at po
    rw [if_pos (by rw [← rv.len, hl])] at po
    show PoT mg (WE0 E) G H io _ _
    cases c : body (ds.map some ++ List.replicate (N.length - ps.length) none) s0 with
    | nx e s1 =>
      rw [c] at po
      exact fun G1 H1 io1 σ1 e1 rp1 re1 => po G1 H1 io1 .non e1 rp1 (by simp only [RV])
    | rt d s1 =>
      rw [c] at po
      exact po
    | ex y e s1 =>
      rw [c] at po
      exact fun G1 H1 io1 σ1 C dx e1 rp1 re1 rx => po G1 H1 io1 C dx e1 rp1 rx
    | bk e s1 => rw [c] at po; exact po.elim
    | ct e s1 => rw [c] at po; exact po.elim
    | bad => rw [c] at po; exact po.elim
end Mi

set_option Elab.async false
set_option linter.all false
set_option maxRecDepth 100000
/-! Targets, walks, for, while, comprehensions. -/
namespace Mi
open PySem PySem.Spec PyProof.Rows L2
variable {X : Cx} {W : WX}
/-! ### targets -/
structure MG1 (X : Cx) (tg : Expr) (m : D → Fr → S → R Fr) : Prop where
  h : ∃ g, PG X tg g ∧ ∀ (G H : Hp) (io : List Addr) (env : Fr) (σ : L2.St) (s : S) (d : D) (v : V) (Q : L2.St → Hp → Prop) (E : XK), RE X.mg G io env σ → Rp X.mg G H io s → RV X.mg G io d v → Po (RE X.mg) X.mg G H io (m d env s) Q E → g v σ H Q
structure MGs (X : Cx) (ts : List Expr) (m : List D → Fr → S → R Fr) : Prop where
  h : ∃ g, PGs X ts g ∧ ∀ (G H : Hp) (io : List Addr) (env : Fr) (σ : L2.St) (s : S) (ds : List D) (vs : List V) (Q : L2.St → Hp → Prop) (E : XK), RE X.mg G io env σ → Rp X.mg G H io s → RVs X.mg G io ds vs → Po (RE X.mg) X.mg G H io (m ds env s) Q E → g vs σ H Q
section
variable {pos : Pos}
def gN (i : Nat) : D → Fr → S → R Fr := fun d env s => .ok (env.set i (some d)) s
theorem mg_name (i : Nat) {x : Str} (hN : X.N.Nodup) (hi : X.N[i]? = some x) (hx : Loc X.env.scope x) (hf : X.fn x = true ∨ X.env.scope.names.lookup x = some .local := by first | exact .inl rfl | exact .inr rfl | assumption) : MG1 X (.Name x pos) (gN i) :=
  ⟨_, pg_name hN hi hx hf, fun G H io env σ s d v Q E re rp rv h => h.now rp (re.set rv i)⟩
def gs0 : List D → Fr → S → R Fr := fun ds env s => match ds with
  | [] => .ok env s
  | _ => .bad
def gs1 (g : D → Fr → S → R Fr) (gs : List D → Fr → S → R Fr) : List D → Fr → S → R Fr := fun ds env s => match ds with
  | [] => .bad
  | d :: r => (g d env s).bind fun env1 s1 => gs r env1 s1
/-- a target that lets nothing out (a name, a tuple of names) -/
theorem mgs_nil : MGs X [] gs0 := ⟨_, pgs_nil, fun G H io env σ s ds vs Q E re rp rv h => by
  cases ds with
  | nil => exact ⟨rv.nil_inv, h.now rp re⟩
  | cons _ _ => exact h.elim⟩
theorem mgs_name (i : Nat) {x : Str} {es : List Expr} {gs : List D → Fr → S → R Fr} (hN : X.N.Nodup) (hi : X.N[i]? = some x) (hx : Loc X.env.scope x) (h2 : MGs X es gs)
    (hs : (assignEach (.Name x pos :: es) X.env).map (·.2) = assign (.Name x pos) X.env :: (assignEach es X.env).map (·.2) := by rfl) (hf : X.fn x = true ∨ X.env.scope.names.lookup x = some .local := by first | exact .inl rfl | exact .inr rfl | assumption) : MGs X (.Name x pos :: es) (gs1 (gN i) gs) := by
  obtain ⟨u, p', q'⟩ := h2.h
  refine ⟨_, pgs_cons (pg_name hN hi hx hf) p' hs, fun G H io env σ s ds vs Q E re rp rv h => ?_⟩
  cases ds with
  | nil => exact h.elim
  | cons d r =>
    obtain ⟨v, vr, e, rv1, rvr⟩ := rv.cons_inv
    refine ⟨v, vr, e, ?_⟩
    exact q' G H io _ _ s r vr Q E (re.set rv1 i) rp rvr h
def gT (n : Nat) (gs : List D → Fr → S → R Fr) : D → Fr → S → R Fr := fun d env s => match d with
  | .tup ds => if ds.length = n then gs ds env s else .bad
  | _ => .bad
theorem mg_tup {es : List Expr} {k : Nat} {gs : List D → Fr → S → R Fr} {n : Nat} (hc : X.calm = true) (h : MGs X es gs)
    (hn : (assignEach es X.env).length = n := by rfl) (hst : (assignEach es X.env).findIdx? (·.1) = none := by rfl) : MG1 X (.Tuple es k pos) (gT n gs) := by
  obtain ⟨u, p, q⟩ := h.h
  refine ⟨_, pg_tup hc p hn hst, fun G H io env σ s d v Q E re rp rv h => ?_⟩
  cases d <;> first | exact h.elim | skip
  rename_i ds
  simp only [RV] at rv
  obtain ⟨a, vs, e, hG, rvs⟩ := rv
  have h' : Po (RE X.mg) X.mg G H io (if ds.length = n then gs ds env s else .bad) Q E := h
  split at h'
  · rename_i hl
    exact ⟨a, vs, e, .of (rp.gh _ _ hG), by rw [rvs.len, hl], q G H io env σ s ds vs Q E re rp rvs h'⟩
  · exact h'.elim
end
/-! ### what is walked -/
structure Wk where
  items : List D
  chk : S → Bool
def ItOk (mg : MG) (wk : Wk) (J : It) (G0 : Hp) (io0 : List Addr) : Prop := ∀ (G H : Hp) (io : List Addr) (s : S), (∀ a o, G0 a = some o → G a = some o) → (∃ t, io = io0 ++ t) → Rp mg G H io s → wk.chk s = true → ∀ i : Nat,
  (∀ d, wk.items[i]? = some d → J.go i H ∧ ∀ x H3, J.yld i H x H3 → ∃ G3, Ext G H io G3 H3 io ∧ Rp mg G3 H3 io s ∧ RV mg G3 io d x) ∧ (wk.items[i]? = none → J.stop i H)
abbrev PoW (mg : MG) (G H : Hp) (io : List Addr) (r : R Wk) (Q : It → Hp → Prop) (E : XK) : Prop := Po (fun G io wk J => ItOk mg wk J G io) mg G H io r Q E
structure MI (X : Cx) (W : WX) (tg iter : Expr) (m : Fr → S → R Wk) : Prop where
  h : ∃ wi, PI X tg iter wi ∧ ∀ (G H : Hp) (io : List Addr) (env : Fr) (σ : L2.St) (s : S) (Q : It → Hp → Prop), RE X.mg G io env σ → Rp X.mg G H io s → PoW X.mg G H io (m env s) Q (WAt W σ) → wi σ H Q
/-- sequences by values -/
def asL (d : D) (s : S) : Option (List D) := match d with
  | .lst xs => some xs
  | .ref i => match s[i]? with
    | some (.lst xs) => some xs
    | _ => none
  | _ => none
def asQ (d : D) (s : S) : Option (List D) := match d with
  | .tup xs => some xs
  | .scr xs => some xs
  | .lst xs => some xs
  | .ref i => match s[i]? with
    | some (.lst xs) => some xs
    | _ => none
  | _ => none
theorem asL_rv {mg : MG} {G H : Hp} {io : List Addr} {s : S} {d : D} {v : V} {xs : List D} (rp : Rp mg G H io s) (rv : RV mg G io d v) (h : asL d s = some xs) : ∃ a vs, v = .ref a ∧ H a = some (.lst vs) ∧ RVs mg G io xs vs := by
  cases d <;> first | (cases h; done) | skip
  · cases h
    simp only [RV] at rv
    obtain ⟨a, vs, e, hG, r⟩ := rv
    exact ⟨a, vs, e, rp.gh _ _ hG, r⟩
  · rename_i i
    simp only [RV] at rv
    obtain ⟨a, e, hi⟩ := rv
    unfold asL at h
    dsimp only at h
    split at h
    · rename_i ys hs
      cases h
      obtain ⟨_, vs, h1, h2⟩ := rp.cell i a _ hi hs
      exact ⟨a, vs, e, h1, h2⟩
    · cases h
theorem asQ_rv2 {mg : MG} {K : PySem.W.Frag} {G H : Hp} {io : List Addr} {s : S} {d : D} {v : V} {xs : List D} (rp : Rp mg G H io s) (rv : RV mg G io d v) (h : asQ d s = some xs) : ∃ a vs, v = .ref a ∧ ((SqL K H a vs ∧ ∀ zs, d ≠ .tup zs) ∨ (SqT K H a vs ∧ d = .tup xs)) ∧ RVs mg G io xs vs := by
  cases d <;> first | (cases h; done) | skip
  · cases h
    simp only [RV] at rv
    obtain ⟨a, vs, e, hG, r⟩ := rv
    exact ⟨a, vs, e, .inr ⟨.of (rp.gh _ _ hG), rfl⟩, r⟩
  · cases h
    simp only [RV] at rv
    obtain ⟨a, vs, e, hG, r⟩ := rv
    exact ⟨a, vs, e, .inl ⟨.of (rp.gh _ _ hG), fun zs z => by cases z⟩, r⟩
  · rename_i i
    simp only [RV] at rv
    obtain ⟨a, e, hi⟩ := rv
    unfold asQ at h
    dsimp only at h
    split at h
    · rename_i ys hs
      cases h
      obtain ⟨_, vs, h1, h2⟩ := rp.cell i a _ hi hs
      exact ⟨a, vs, e, .inl ⟨.of h1, fun zs z => by cases z⟩, h2⟩
    · cases h
  · cases h
    simp only [RV] at rv
    obtain ⟨a, o, vs, e, hG, r⟩ := rv
    exact ⟨a, vs, e, .inl ⟨.inl (.inr ⟨o, rp.gh _ _ hG⟩), fun zs z => by cases z⟩, r⟩
theorem asQ_rv {mg : MG} {K : PySem.W.Frag} {G H : Hp} {io : List Addr} {s : S} {d : D} {v : V} {xs : List D} (rp : Rp mg G H io s) (rv : RV mg G io d v) (h : asQ d s = some xs) : ∃ a vs, v = .ref a ∧ (SqL K H a vs ∨ SqT K H a vs) ∧ RVs mg G io xs vs := by
  obtain ⟨a, vs, e, h1, h2⟩ := asQ_rv2 (K := K) rp rv h
  exact ⟨a, vs, e, h1.elim (fun z => .inl z.1) (fun z => .inr z.1), h2⟩
/-- iter(a list or a tuple) -/
def iSeq (K : PySem.W.Frag) (tl : TE) : TI := fun σ H R => tl σ H fun x H1 => ∃ a, x = .ref a ∧ (((∃ xs, SqL K H1 a xs) ∧ R (Itl K a) H1) ∨ ((∃ xs, SqT K H1 a xs) ∧ R (Itt K a) H1))
theorem pi_seq {tg l : Expr} {tl : TE} (hl : PE X l tl) : PI X tg l (iSeq X.K tl) := by
  refine ⟨fun pins s σ H R I h => ?_⟩
  refine thn (hl.run pins s σ H _ I h) fun v s1 ⟨x, H1, I1, r1, q1⟩ => ?_
  obtain ⟨a, e, q1⟩ := q1
  subst e
  cases r1
  rcases q1 with ⟨⟨xs, hq⟩, q⟩ | ⟨⟨xs, hq⟩, q⟩
  · obtain ⟨its, rv, p, hz⟩ := I1.list hq
    refine wpAny_pyIter_list p.isList ?_
    refine ⟨s1.heap.objs.size, [s1.heap.objs.size], _, _, H1, rfl, I1.kept (t' := s1.toks) fun b o e => Heap.get?_push_of_some _ e, turn_list a _, ⟨_, Heap.get?_push_size _ rfl, rfl, rfl⟩, fun b hb => ?_, q⟩
    have e : b = s1.heap.objs.size := by simpa using hb
    subst e
    exact I1.fpOk (Nat.le_refl _) (I1.hok.fresh (Nat.le_refl _))
  · obtain ⟨its, rv, p, hz⟩ := I1.tuple hq
    refine wpAny_pyIter_tuple (show s1.heap.IsTuple a its.toArray from p) ?_
    refine ⟨s1.heap.objs.size, [s1.heap.objs.size], _, _, H1, rfl, I1.kept (t' := s1.toks) fun b o e => Heap.get?_push_of_some _ e, turn_tuple a _, ⟨_, Heap.get?_push_size _ rfl, rfl, rfl⟩, fun b hb => ?_, q⟩
    have e : b = s1.heap.objs.size := by simpa using hb
    subst e
    exact I1.fpOk (Nat.le_refl _) (I1.hok.fresh (Nat.le_refl _))
def iterD (d : D) (s : S) : R Wk := match asQ d s with
  | some xs => .ok ⟨xs, match d with
    | .ref i => fun s' => decide (s'[i]? = some (.lst xs))
    | _ => fun _ => true⟩ s
  | none => .bad
def mIter (m : Fr → S → R D) : Fr → S → R Wk := fun env s => (m env s).bind iterD
theorem itOk_list {mg : MG} {K : PySem.W.Frag} {G0 : Hp} {io0 : List Addr} {wk : Wk} {a : Addr}
    (h : ∀ (G H : Hp) (io : List Addr) (s : S), (∀ a o, G0 a = some o → G a = some o) → (∃ t, io = io0 ++ t) → Rp mg G H io s → wk.chk s = true → ∃ vs, SqL K H a vs ∧ RVs mg G io wk.items vs) : ItOk mg wk (Itl K a) G0 io0 := by
  intro G H io s g p rp hc i
  obtain ⟨vs, hs, rv⟩ := h G H io s g p rp hc
  refine ⟨fun d hd => ?_, fun hn => ?_⟩
  · obtain ⟨v, h1, h2⟩ := rv.get hd
    refine ⟨⟨vs, v, hs, h1⟩, fun x H3 hy => ?_⟩
    obtain ⟨e, hx⟩ := hy
    subst e
    have := hx vs hs
    rw [h1] at this
    cases this
    exact ⟨G, Ext.refl, rp, h2⟩
  · exact ⟨vs, hs, by rw [rv.len]; exact List.getElem?_eq_none_iff.mp hn⟩
theorem itOk_tup {mg : MG} {K : PySem.W.Frag} {G0 : Hp} {io0 : List Addr} {wk : Wk} {a : Addr}
    (h : ∀ (G H : Hp) (io : List Addr) (s : S), (∀ a o, G0 a = some o → G a = some o) → (∃ t, io = io0 ++ t) → Rp mg G H io s → wk.chk s = true → ∃ vs, SqT K H a vs ∧ RVs mg G io wk.items vs) : ItOk mg wk (Itt K a) G0 io0 := by
  intro G H io s g p rp hc i
  obtain ⟨vs, hs, rv⟩ := h G H io s g p rp hc
  refine ⟨fun d hd => ?_, fun hn => ?_⟩
  · obtain ⟨v, h1, h2⟩ := rv.get hd
    refine ⟨⟨vs, v, hs, h1⟩, fun x H3 hy => ?_⟩
    obtain ⟨e, hx⟩ := hy
    subst e
    have := hx vs hs
    rw [h1] at this
    cases this
    exact ⟨G, Ext.refl, rp, h2⟩
  · exact ⟨vs, hs, by rw [rv.len]; exact List.getElem?_eq_none_iff.mp hn⟩
theorem mi_seq {tg iter : Expr} {m : Fr → S → R D} (he : ME X W iter m) : MI X W tg iter (mIter m) := by
  obtain ⟨t, p, q⟩ := he.h
  refine ⟨_, pi_seq p, fun G H io env σ s Q re rp h => q G H io env σ s _ re rp (Po.bind h fun d s1 G1 H1 io1 v e1 rp1 rv h => ?_)⟩
  unfold iterD at h
  cases c : asQ d s1 with
  | none => rw [c] at h; exact h.elim
  | some xs =>
    rw [c] at h
    cases d <;> first | (cases c; done) | skip
    · cases c
      simp only [RV] at rv
      obtain ⟨a, vs, e, hG, r⟩ := rv
      refine ⟨a, e, .inr ⟨⟨vs, .of (rp1.gh _ _ hG)⟩, h.now rp1 (itOk_tup fun G2 H2 io2 s2 g p rp2 _ => ⟨vs, .of (rp2.gh _ _ (g _ _ hG)), r.mono g p⟩)⟩⟩
    · cases c
      simp only [RV] at rv
      obtain ⟨a, vs, e, hG, r⟩ := rv
      refine ⟨a, e, .inl ⟨⟨vs, .of (rp1.gh _ _ hG)⟩, h.now rp1 (itOk_list fun G2 H2 io2 s2 g p rp2 _ => ⟨vs, .of (rp2.gh _ _ (g _ _ hG)), r.mono g p⟩)⟩⟩
    · rename_i i
      obtain ⟨a0, vs0, e0, hs0, _⟩ := asQ_rv (K := X.K) rp1 rv c
      simp only [RV] at rv
      obtain ⟨a, e, hi⟩ := rv
      have hc : s1[i]? = some (.lst xs) := by
        unfold asQ at c
        dsimp only at c
        split at c
        · rename_i ys hs
          cases c
          exact hs
        · cases c
      obtain ⟨_, vs, h1, h2⟩ := rp1.cell i a _ hi hc
      refine ⟨a, e, .inl ⟨⟨vs, .of h1⟩, h.now rp1 (itOk_list fun G2 H2 io2 s2 g p rp2 hk => ?_)⟩⟩
      have hk' : s2[i]? = some (.lst xs) := of_decide_eq_true hk
      obtain ⟨_, vs2, h3, h4⟩ := rp2.cell i a _ (idx_mono p hi) hk'
      exact ⟨vs2, .of h3, h4⟩
    · cases c
      simp only [RV] at rv
      obtain ⟨a, o, vs, e, hG, r⟩ := rv
      refine ⟨a, e, .inl ⟨⟨vs, .inl (.inr ⟨o, rp1.gh _ _ hG⟩)⟩, h.now rp1 (itOk_list fun G2 H2 io2 s2 g p rp2 _ => ⟨vs, .inl (.inr ⟨o, rp2.gh _ _ (g _ _ hG)⟩), r.mono g p⟩)⟩⟩
/-- range -/
def rangeD (lo hi : Int) : List D := (List.range (hi - lo).toNat).map fun k => .int (lo + (k : Nat))
def rng1 (m : Fr → S → R D) : Fr → S → R Wk := fun env s => (m env s).bind fun d s1 => match d with
  | .int j => if -(2 ^ 62) ≤ j ∧ j < 2 ^ 62 then .ok ⟨rangeD 0 j, fun _ => true⟩ s1 else .bad
  | _ => .bad
def rng2 (m n : Fr → S → R D) : Fr → S → R Wk := fun env s => (m env s).bind fun d s1 => (n env s1).bind fun d' s2 => match d, d' with
  | .int i, .int j => if -(2 ^ 62) ≤ i ∧ i < 2 ^ 62 ∧ -(2 ^ 62) ≤ j ∧ j < 2 ^ 62 then .ok ⟨rangeD i j, fun _ => true⟩ s2 else .bad
  | _, _ => .bad
theorem itOk_range {mg : MG} {G0 : Hp} {io0 : List Addr} {lo hi : Int} : ItOk mg ⟨rangeD lo hi, fun _ => true⟩ (Itr lo (hi - lo).toNat) G0 io0 := by
  intro G H io s g p rp _ i
  refine ⟨fun d hd => ?_, fun hn => ?_⟩
  · unfold rangeD at hd
    dsimp only at hd
    rw [List.getElem?_map] at hd
    by_cases hi : i < (hi - lo).toNat
    · rw [List.getElem?_range hi] at hd
      cases hd
      refine ⟨hi, fun x H3 hy => ?_⟩
      obtain ⟨rfl, rfl⟩ := hy
      exact ⟨G, Ext.refl, rp, by simp only [RV]⟩
    · rw [List.getElem?_eq_none (by rw [List.length_range]; omega)] at hd
      cases hd
  · unfold rangeD at hn
    dsimp only at hn
    rw [List.getElem?_eq_none_iff, List.length_map, List.length_range] at hn
    exact hn
theorem mi_range1 {tg a : Expr} {m : Fr → S → R D} {p pos : Pos} (hg : Gl X "range") (hm : X.mg "range" = none) (ha : ME X W a m) (hs : starEach [a] X.env = [(false, eval a X.env)] := by rfl) : MI X W tg (.Call (.Name "range" p) [a] [] pos) (rng1 m) := by
  obtain ⟨t, pa, qa⟩ := ha.h
  refine ⟨_, pi_range1 hg hm (pa_cons pa pa_nil hs) hs, fun G H io env σ s Q re rp h => qa G H io env σ s _ re rp (Po.bind h fun d s1 G1 H1 io1 v e1 rp1 rv h => ?_)⟩
  cases d <;> first | exact h.elim | skip
  rename_i j
  simp only [RV] at rv
  have h' : PoW X.mg G1 H1 io1 (if -(2 ^ 62) ≤ j ∧ j < 2 ^ 62 then .ok ⟨rangeD 0 j, fun _ => true⟩ s1 else .bad) Q (WAt W σ) := h
  split at h'
  · rename_i hj
    refine ⟨j, by rw [rv], hj.1, hj.2, ?_⟩
    have e : j.toNat = (j - 0).toNat := by omega
    rw [e]
    exact h'.now rp1 itOk_range
  · exact h'.elim
theorem mi_range2 {tg a b : Expr} {m n : Fr → S → R D} {p pos : Pos} (hg : Gl X "range") (hm : X.mg "range" = none) (ha : ME X W a m) (hb : ME X W b n) (hs : starEach [a, b] X.env = [(false, eval a X.env), (false, eval b X.env)] := by rfl) (hs2 : starEach [b] X.env = [(false, eval b X.env)] := by rfl) :
    MI X W tg (.Call (.Name "range" p) [a, b] [] pos) (rng2 m n) := by
  obtain ⟨t, pa, qa⟩ := ha.h
  obtain ⟨u, pb, qb⟩ := hb.h
  refine ⟨_, pi_range2 hg hm (pa_cons pa (pa_cons pb pa_nil hs2) (by rw [hs, hs2])) hs hs2, fun G H io env σ s Q re rp h => qa G H io env σ s _ re rp (Po.bind h fun d s1 G1 H1 io1 v e1 rp1 rv h1 => ?_)⟩
  refine qb G1 H1 io1 env σ s1 _ (re.ext e1) rp1 (Po.bind h1 fun d' s2 G2 H2 io2 v' e2 rp2 rv' h2 => ?_)
  clear h1 h
  cases d <;> first | exact h2.elim | skip
  rename_i i
  cases d' <;> first | exact h2.elim | skip
  rename_i j
  simp only [RV] at rv rv'
  have h' : PoW X.mg G2 H2 io2 (if -(2 ^ 62) ≤ i ∧ i < 2 ^ 62 ∧ -(2 ^ 62) ≤ j ∧ j < 2 ^ 62 then .ok ⟨rangeD i j, fun _ => true⟩ s2 else .bad) Q (WAt W σ) := h2
  split at h'
  · rename_i hj
    exact ⟨i, j, by rw [rv, rv'], hj, h'.now rp2 itOk_range⟩
  · exact h'.elim
/-! ### for -/
def forNext (t : T) (k : Fr → S → T) : T := match t with
  | .nx e s => k e s
  | .ct e s => k e s
  | .bk e s => .nx e s
  | .rt d s => .rt d s
  | .ex x e s => .ex x e s
  | .bad => .bad
@[simp] theorem forNext_nx (e : Fr) (s : S) (k : Fr → S → T) : forNext (.nx e s) k = k e s := rfl
@[simp] theorem forNext_ct (e : Fr) (s : S) (k : Fr → S → T) : forNext (.ct e s) k = k e s := rfl
@[simp] theorem forNext_bk (e : Fr) (s : S) (k : Fr → S → T) : forNext (.bk e s) k = .nx e s := rfl
@[simp] theorem forNext_rt (d : D) (s : S) (k : Fr → S → T) : forNext (.rt d s) k = .rt d s := rfl
@[simp] theorem forNext_ex (x : Ex) (e : Fr) (s : S) (k : Fr → S → T) : forNext (.ex x e s) k = .ex x e s := rfl
@[simp] theorem forNext_bad (k : Fr → S → T) : forNext .bad k = .bad := rfl
def forGo (chk : S → Bool) (g : D → Fr → S → R Fr) (body : Fr → S → T) : List D → Fr → S → T
  | [], env, s => if chk s = true then .nx env s else .bad
  | x :: xs, env, s => if chk s = true then (g x env s).go env fun env1 s1 => forNext (body env1 s1) (forGo chk g body xs) else .bad
def mFor (it : Fr → S → R Wk) (g : D → Fr → S → R Fr) (body : Fr → S → T) : Fr → S → T := fun env s => (it env s).go env fun wk s1 => forGo wk.chk g body wk.items env s1
theorem PoT.forNext {mg : MG} {G H : Hp} {io : List Addr} {t : T} {k : Fr → S → T} {D : Ends} {N : L2.St → Hp → Prop} (h : PoT mg W G H io (forNext t k) D)
    (q : ∀ e s1 G1 H1 io1 σ1, Ext G H io G1 H1 io1 → Rp mg G1 H1 io1 s1 → RE mg G1 io1 e σ1 → PoT mg W G1 H1 io1 (k e s1) D → N σ1 H1) : PoT mg W G H io t { D with nx := N, ct := N, bk := D.nx } := by
  cases t with
  | nx e s => exact fun G1 H1 io1 σ1 x p r => q e s G1 H1 io1 σ1 x p r (PoT.ext x h)
  | ct e s => exact fun G1 H1 io1 σ1 x p r => q e s G1 H1 io1 σ1 x p r (PoT.ext x h)
  | bk _ _ => exact h
  | rt _ _ => exact h
  | ex _ _ _ => exact h
  | bad => exact h
theorem ms_for {tg iter : Expr} {body : List Stmt} {mi : Fr → S → R Wk} {g : D → Fr → S → R Fr} {mb : Fr → S → T} {pos : Pos} (hp : PassesOwn (model X.prog X.w) X.A X.env X.xe) (hc : X.calm = true) (hi : MI X W tg iter mi) (hg : MG1 X tg g) (hb : MSs X W body mb)
    (hs : ∀ x, foldedSetIterable iter X.env x = pure x := by intro _; rfl) : MS X W (.For tg iter body [] pos) (mFor mi g mb) := by
  obtain ⟨wi, pi, qi⟩ := hi.h
  obtain ⟨tg', pg, qg⟩ := hg.h
  obtain ⟨tb, pb, qb⟩ := hb.h
  refine ⟨_, ps_for hp hc pi pg pb hs, fun G H io env σ s D re rp h => qi G H io env σ s _ re rp (PoT.go re h fun wk s1 G1 H1 io1 J e1 rp1 ok h => ?_)⟩
  refine ⟨fun i m σ' H' => m = wk.items.length - i ∧ i ≤ wk.items.length ∧ ∃ G' io' s' env', Ext G1 H1 io1 G' H' io' ∧ Rp X.mg G' H' io' s' ∧ RE X.mg G' io' env' σ' ∧ PoT X.mg W G' H' io' (forGo wk.chk g mb (wk.items.drop i) env' s') D,
    ⟨wk.items.length, by simp, Nat.zero_le _, G1, io1, s1, env, Ext.refl, rp1, re.ext e1, h⟩, ?_⟩
  rintro i m σ' H' ⟨rfl, hi, G', io', s', env', e', rp', re', h'⟩
  by_cases hlt : i < wk.items.length
  · have hd : wk.items.drop i = wk.items[i] :: wk.items.drop (i + 1) := List.drop_eq_getElem_cons hlt
    rw [hd] at h'
    unfold forGo at h'
    split at h'
    · rename_i hk
      obtain ⟨go, yl⟩ := (ok G' H' io' s' e'.g e'.p rp' hk i).1 _ (List.getElem?_eq_getElem hlt)
      refine .inr ⟨go, fun σ2 H2 => ∃ G2 io2 s2 env2, Ext G1 H1 io1 G2 H2 io2 ∧ Rp X.mg G2 H2 io2 s2 ∧ RE X.mg G2 io2 env2 σ2 ∧ PoT X.mg W G2 H2 io2 (forGo wk.chk g mb (wk.items.drop (i + 1)) env2 s2) D, fun σ2 H2 ⟨G2, io2, s2, env2, x1, x2, x3, x4⟩ => ?_, fun x H3 hy => ?_⟩
      · exact ⟨wk.items.length - (i + 1), by omega, rfl, hlt, G2, io2, s2, env2, x1, x2, x3, x4⟩
      · obtain ⟨G3, e3, rp3, rv3⟩ := yl x H3 hy
        refine qg G3 H3 io' env' σ' s' _ x _ (WAt W σ') (re'.ext e3) rp3 rv3 (PoT.go (re'.ext e3) (PoT.ext e3 h') fun env4 s4 G4 H4 io4 σ4 e4 rp4 re4 h4 => ?_)
        refine qb G4 H4 io4 env4 σ4 s4 _ re4 rp4 (PoT.forNext h4 fun env5 s5 G5 H5 io5 σ5 e5 rp5 re5 h5 => ?_)
        exact ⟨G5, io5, s5, env5, ((e'.trans e3).trans e4).trans e5, rp5, re5, h5⟩
    · exact h'.elim
  · have hn : wk.items.length ≤ i := by omega
    rw [List.drop_eq_nil_of_le hn] at h'
    unfold forGo at h'
    split at h'
    · rename_i hk
      exact .inl ⟨(ok G' H' io' s' e'.g e'.p rp' hk i).2 (List.getElem?_eq_none hn), h' G' H' io' σ' Ext.refl rp' re'⟩
    · exact h'.elim
/-! ### while -/
def whGo (c : Fr → S → R Bool) (body : Fr → S → T) : Nat → Fr → S → T
  | 0, _, _ => .bad
  | n + 1, env, s => (c env s).go env fun b s1 => if b = true then forNext (body env s1) (whGo c body n) else .nx env s1
def mWhile (n : Nat) (c : Fr → S → R Bool) (body : Fr → S → T) : Fr → S → T := whGo c body n
theorem ms_while (n : Nat) {c : Expr} {body : List Stmt} {mc : Fr → S → R Bool} {mb : Fr → S → T} {pos : Pos} (hp : PassesOwn (model X.prog X.w) X.A X.env X.xe) (hc : MT X W c mc) (hb : MSs X W body mb) : MS X W (.While c body [] pos) (mWhile n mc mb) := by
  obtain ⟨tc, pc, qc⟩ := hc.h
  obtain ⟨tb, pb, qb⟩ := hb.h
  refine ⟨_, ps_while hp pc pb, fun G H io env σ s D re rp h => ?_⟩
  refine ⟨fun m σ' H' => ∃ G' io' s' env', Rp X.mg G' H' io' s' ∧ RE X.mg G' io' env' σ' ∧ PoT X.mg W G' H' io' (whGo mc mb m env' s') D, ⟨n, G, io, s, env, rp, re, h⟩, ?_⟩
  rintro m σ' H' ⟨G', io', s', env', rp', re', h'⟩
  cases m with
  | zero => exact h'.elim
  | succ m =>
    unfold whGo at h'
    refine qc G' H' io' env' σ' s' _ re' rp' (PoT.go re' h' fun b s1 G1 H1 io1 b' e1 rp1 rb h1 => ?_)
    subst rb
    cases b with
    | true =>
      rw [if_pos rfl]
      refine ⟨fun σ2 H2 => ∃ G2 io2 s2 env2, Rp X.mg G2 H2 io2 s2 ∧ RE X.mg G2 io2 env2 σ2 ∧ PoT X.mg W G2 H2 io2 (whGo mc mb m env2 s2) D, fun σ2 H2 x => ⟨m, Nat.lt_succ_self m, x⟩, ?_⟩
      refine qb G1 H1 io1 env' σ' s1 _ (re'.ext e1) rp1 (PoT.forNext h1 fun env5 s5 G5 H5 io5 σ5 e5 rp5 re5 h5 => ?_)
      exact ⟨G5, io5, s5, env5, rp5, re5, h5⟩
    | false =>
      rw [if_neg Bool.false_ne_true]
      exact h1 G1 H1 io1 σ' Ext.refl rp1 (re'.ext e1)
end Mi

set_option Elab.async false
set_option linter.all false
set_option maxRecDepth 100000
/-! Comprehensions. -/
namespace Mi
open PySem PySem.Spec PyProof.Rows L2
variable {X : Cx} {W : WX}
/-- a target: a name's slot, or a tuple of names -/
inductive Tg where
  | n (i : Nat) | t (is : List Nat)
def Tg.slots : Tg → List Nat
  | .n i => [i]
  | .t is => is
def gNames : List Nat → TGs
  | [] => gNil
  | i :: is => gCons (gName i) (gNames is)
def gOf (K : PySem.W.Frag) : Tg → TG
  | .n i => gName i
  | .t is => gTup K is.length (gNames is)
def setAll : List Nat → List D → Fr → Fr
  | i :: is, d :: ds, env => setAll is ds (env.set i (some d))
  | _, _, env => env
def gD : Tg → D → Fr → S → R Fr
  | .n i, d, env, s => .ok (env.set i (some d)) s
  | .t is, .tup ds, env, s => if ds.length = is.length then .ok (setAll is ds env) s else .bad
  | .t _, _, _, _ => .bad
def wipeE (env : Fr) : List Nat → Fr
  | [] => env
  | v :: vs => (wipeE env vs).set v none
theorem wipe_out {σ : L2.St} {i : Nat} {v : Option V} : ∀ {us : List Nat}, i ∉ us → wipe (σ.set i v) us = (wipe σ us).set i v
  | [], _ => rfl
  | u :: us, hn => by
    have h1 : i ≠ u := fun z => hn (z ▸ List.mem_cons_self)
    have h2 : i ∉ us := fun z => hn (List.mem_cons_of_mem _ z)
    unfold wipe
    rw [wipe_out h2, List.set_comm _ _ h1]
theorem wipe_set {σ : L2.St} {i : Nat} {v : Option V} : ∀ {vs : List Nat}, i ∈ vs → wipe (σ.set i v) vs = wipe σ vs
  | [], h => by cases h
  | w :: vs, h => by
    unfold wipe
    by_cases e : i ∈ vs
    · rw [wipe_set e]
    · have ew : i = w := by
        rcases List.mem_cons.mp h with h | h
        · exact h
        · exact absurd h e
      subst ew
      rw [wipe_out e, List.set_set]
theorem wipe_wipe {σ : L2.St} : ∀ vs : List Nat, wipe (wipe σ vs) vs = wipe σ vs
  | [] => rfl
  | v :: vs => by
    show (wipe ((wipe σ vs).set v none) vs).set v none = (wipe σ vs).set v none
    by_cases e : v ∈ vs
    · rw [wipe_set e, wipe_wipe vs]
    · rw [wipe_out e, List.set_set, wipe_wipe vs]
theorem RE.wipe {mg : MG} {G : Hp} {io : List Addr} {env : Fr} {σ : L2.St} (h : RE mg G io env σ) : ∀ vs : List Nat, RE mg G io (wipeE env vs) (L2.wipe σ vs)
  | [] => h
  | v :: vs => by
    have ih := RE.wipe h vs
    unfold wipeE L2.wipe
    refine ⟨by rw [List.length_set, List.length_set]; exact ih.1, fun i d q => ?_⟩
    by_cases e : i = v
    · subst e
      have hl := (List.getElem?_eq_some_iff.mp q).1
      rw [List.length_set] at hl
      rw [List.getElem?_set_self hl] at q
      cases q
    · rw [List.getElem?_set_ne (Ne.symm e)] at q
      obtain ⟨u, h1, h2⟩ := ih.2 i d q
      exact ⟨u, by rw [List.getElem?_set_ne (Ne.symm e)]; exact h1, h2⟩
theorem gNames_run {mg : MG} {vs : List Nat} {G H : Hp} {io : List Addr} : ∀ {is : List Nat} {env : Fr} {σ : L2.St} {ds : List D} {ws : List V} {Q : L2.St → Hp → Prop}, (∀ i ∈ is, i ∈ vs) → RE mg G io env σ → RVs mg G io ds ws → ds.length = is.length →
    (∀ σ2, RE mg G io (setAll is ds env) σ2 → Q σ2 H) → gNames is ws σ H (fun σ2 H2 => wipe σ2 vs = wipe σ vs ∧ Q σ2 H2)
  | [], env, σ, ds, ws, Q, hv, re, rv, hl, h => by
    have e : ds = [] := List.length_eq_zero_iff.mp hl
    subst e
    exact ⟨rv.nil_inv, rfl, h σ re⟩
  | i :: is, env, σ, [], ws, Q, hv, re, rv, hl, h => by cases hl
  | i :: is, env, σ, d :: ds, ws, Q, hv, re, rv, hl, h => by
    obtain ⟨v, r, e, r1, rr⟩ := rv.cons_inv
    refine ⟨v, r, e, ?_⟩
    have q := gNames_run (Q := Q) (vs := vs) (fun j hj => hv j (List.mem_cons_of_mem _ hj)) (re.set r1 i) rr (by simpa using hl) h
    rw [wipe_set (hv i List.mem_cons_self)] at q
    exact q
theorem gD_run {mg : MG} {K : PySem.W.Frag} {vs : List Nat} {G H : Hp} {io : List Addr} {tg : Tg} {env : Fr} {σ : L2.St} {s : S} {d : D} {v : V} {Q : L2.St → Hp → Prop} {E : XK} (hv : ∀ i ∈ tg.slots, i ∈ vs) (re : RE mg G io env σ) (rp : Rp mg G H io s) (rv : RV mg G io d v)
    (h : Po (RE mg) mg G H io (gD tg d env s) Q E) : gOf K tg v σ H (fun σ2 H2 => wipe σ2 vs = wipe σ vs ∧ Q σ2 H2) := by
  cases tg with
  | n i => exact ⟨wipe_set (hv i (List.mem_singleton.mpr rfl)), h.now rp (re.set rv i)⟩
  | t is =>
    cases d <;> first | exact h.elim | skip
    rename_i ds
    simp only [RV] at rv
    obtain ⟨a, ws, e, hG, rvs⟩ := rv
    have h' : Po (RE mg) mg G H io (if ds.length = is.length then .ok (setAll is ds env) s else .bad) Q E := h
    split at h'
    · rename_i hl
      exact ⟨a, ws, e, .of (rp.gh _ _ hG), by rw [rvs.len, hl], gNames_run hv re rvs hl fun σ2 re2 => h'.now rp re2⟩
    · exact h'.elim
theorem mg_of {tg : Expr} {T : Tg} (h : PG X tg (gOf X.K T)) : MG1 X tg (gD T) := by
  have mono : ∀ {is : List Nat} {ws : List V} {σ : L2.St} {H : Hp} {Q Q' : L2.St → Hp → Prop}, (∀ a b, Q a b → Q' a b) → gNames is ws σ H Q → gNames is ws σ H Q' := by
    intro is
    induction is with
    | nil => intro ws σ H Q Q' k h; exact ⟨h.1, k _ _ h.2⟩
    | cons i is ih => intro ws σ H Q Q' k ⟨v, r, e, h⟩; exact ⟨v, r, e, ih k h⟩
  refine ⟨_, h, fun G H io env σ s d v Q E re rp rv po => ?_⟩
  have q := gD_run (K := X.K) (vs := T.slots) (fun _ h => h) re rp rv po
  cases T with
  | n i => exact q.2
  | t is =>
    obtain ⟨a, xs, e, h1, h2, h3⟩ := q
    exact ⟨a, xs, e, h1, h2, mono (fun _ _ x => x.2) h3⟩
/-- the heap without the thing at D -/
def hid (H : Hp) (D : Addr) : Hp := fun b => if b = D then none else H b
theorem hid_ne {H : Hp} {D b : Addr} (h : b ≠ D) : hid H D b = H b := if_neg h
theorem hid_self {H : Hp} {D : Addr} : hid H D D = none := if_pos rfl
theorem hid_some {H : Hp} {D b : Addr} {o : HO} (h : hid H D b = some o) : b ≠ D ∧ H b = some o := by
  by_cases e : b = D
  · rw [e, hid_self] at h
    cases h
  · rw [hid_ne e] at h
    exact ⟨e, h⟩
theorem hid_upd {H : Hp} {D : Addr} {o : HO} : hid (upd H D o) D = hid H D := by
  funext b
  by_cases e : b = D
  · rw [e, hid_self, hid_self]
  · rw [hid_ne e, hid_ne e, upd_ne e]
theorem hid_none {H : Hp} {D : Addr} (h : H D = none) : hid H D = H := by
  funext b
  by_cases e : b = D
  · rw [e, hid_self, h]
  · rw [hid_ne e]
theorem upd_hid {H : Hp} {D : Addr} {o : HO} (h : H D = some o) : upd (hid H D) D o = H := by
  funext b
  by_cases e : b = D
  · rw [e, upd_same, h]
  · rw [upd_ne e, hid_ne e]
section
variable {mg : MG} {G H G' H' : Hp} {io io' : List Addr} {s : S} {D : Addr}
theorem Rp.unhid (r : Rp mg G (hid H D) io s) : Rp mg G H io s := ⟨fun a o h => (hid_some (r.gh a o h)).2, r.len, r.nd, fun i a c hi hc => by
  obtain ⟨h1, h2⟩ := r.cell i a c hi hc
  obtain ⟨o, ho⟩ := h2.is
  exact ⟨h1, h2.mono (fun _ _ h => h) ⟨[], by simp⟩ (hid_ne (hid_some ho).1).symm⟩⟩
theorem Rp.hid_ (r : Rp mg G H io s) (hg : G D = none) (hi : D ∉ io) : Rp mg G (hid H D) io s := ⟨fun a o h => by
  rw [hid_ne (fun e => by rw [e, hg] at h; cases h)]
  exact r.gh a o h, r.len, r.nd, fun i a c h hc => by
  obtain ⟨h1, h2⟩ := r.cell i a c h hc
  exact ⟨h1, h2.mono (fun _ _ h => h) ⟨[], by simp⟩ (hid_ne (fun e => hi (by rw [← e]; exact List.mem_of_getElem? h)))⟩⟩
theorem Ext.hid_ (e : Ext G H io G' H' io') : Ext G (hid H D) io G' (hid H' D) io' where
  g := e.g
  p := e.p
  fr := fun a o h n => by
    obtain ⟨h1, h2⟩ := hid_some h
    rw [hid_ne h1]
    exact e.fr a o h2 n
  nw := fun a h n => by
    by_cases q : a = D
    · rw [q, hid_self]
    · rw [hid_ne q]
      exact e.nw a h n
  gn := fun a o h n => by
    by_cases q : a = D
    · rw [q, hid_self]
    · rw [hid_ne q]
      exact e.gn a o h n
  dm := fun a o h => by
    obtain ⟨h1, h2⟩ := hid_some h
    obtain ⟨o', h3⟩ := e.dm a o h2
    exact ⟨o', by rw [hid_ne h1]; exact h3⟩
/-- what D is, behind a step -/
theorem Ext.held (e : Ext G H io G' H' io') (r : Rp mg G (hid H D) io s) {o : HO} (h : H D = some o) : D ∉ io ∧ H' D = some o ∧ G' D = none ∧ D ∉ io' := by
  have hi : D ∉ io := r.io_none hid_self
  have hg : G D = none := r.g_none hid_self
  refine ⟨hi, e.fr D o h hi, ?_, fun m => ?_⟩
  · cases q : G' D with
    | none => rfl
    | some u =>
      have := e.gn D u q hg
      rw [h] at this
      cases this
  · have := e.nw D m hi
    rw [h] at this
    cases this
end
/-- no exception leaves from within -/
def noex {α : Type} (r : R α) : R α := match r with
  | .ok a s => .ok a s
  | _ => .bad
@[simp] theorem noex_ok {α : Type} (a : α) (s : S) : noex (.ok a s) = .ok a s := rfl
@[simp] theorem noex_bad {α : Type} : noex (.bad : R α) = .bad := rfl
@[simp] theorem noex_ex {α : Type} (x : Ex) (s : S) : noex (.ex x s : R α) = .bad := rfl
def lcGo (chk : S → Bool) (g : D → Fr → S → R Fr) (tt : Fr → S → R Bool) (te : Fr → S → R D) (env : Fr) : List D → S → R (List D)
  | [], s => if chk s = true then .ok [] s else .bad
  | x :: xs, s => if chk s = true then (g x env s).bind fun env1 s1 => (tt env1 s1).bind fun b s2 => if b = true then (te env1 s2).bind fun y s3 => (lcGo chk g tt te env xs s3).bind fun ys s4 => .ok (y :: ys) s4 else lcGo chk g tt te env xs s2 else .bad
def mLc (mk : List D → S → R D) (it : Fr → S → R Wk) (vs : List Nat) (tg : Tg) (tt : Fr → S → R Bool) (te : Fr → S → R D) : Fr → S → R D := fun env s => (it env s).bind fun wk s1 => (noex (lcGo wk.chk (gD tg) tt te (wipeE env vs) wk.items s1)).bind mk
def yesM : Fr → S → R Bool := fun _ s => .ok true s
abbrev W0 : WX := fun _ _ _ _ => False
structure MTs (X : Cx) (es : List Expr) (m : Fr → S → R Bool) : Prop where
  h : PTs X es (tMB X.mg W0 m)
theorem mts_nil : MTs X [] yesM := ⟨⟨fun pins s σ H Q I ⟨G, io, env, s0, re, rp, po⟩ => pts_nil.run pins s σ H Q I (po.now rp rfl)⟩⟩
theorem mts_one {c : Expr} {m : Fr → S → R Bool} (h : MT X W0 c m) : MTs X [c] m := ⟨pts_one h.pt⟩
theorem lc_run {own : List (Str × Nat)} {mi : Fr → S → R Wk} {T : Tg} {tt : Fr → S → R Bool} {te : Fr → S → R D} {mk : List D → S → R D} {wi : TI} (hk : Mk mk) (hsl : ∀ i ∈ T.slots, i ∈ own.map (·.2))
    (qi : ∀ (G H : Hp) (io : List Addr) (env : Fr) (σ : L2.St) (s : S) (Q : It → Hp → Prop), RE X.mg G io env σ → Rp X.mg G H io s → PoW X.mg G H io (mi env s) Q (WAt W σ) → wi σ H Q)
    {G H : Hp} {io : List Addr} {env : Fr} {σ : L2.St} {s : S} {Q : VK} (re : RE X.mg G io env σ) (rp : Rp X.mg G H io s) (h : PoV X.mg G H io (mLc mk mi (own.map (·.2)) T tt te env s) Q (WAt W σ)) :
    tLc wi (gOf X.K T) (tMB X.mg W0 tt) (tM X.mg W0 te) (own.map (·.2)) σ H Q := by
  refine qi G H io env σ s _ re rp (Po.bind h fun wk s1 G1 H1 io1 J e1 rp1 okI h1 => fun D hD => ?_)
  clear h
  generalize hvs : own.map (·.2) = vs at *
  refine ⟨fun i m H2 => m = wk.items.length - i ∧ i ≤ wk.items.length ∧ ∃ G2 io2 s2 acc ws, Ext G1 H1 io1 G2 (hid H2 D) io2 ∧ Rp X.mg G2 (hid H2 D) io2 s2 ∧ H2 D = some (.lst ws) ∧ RVs X.mg G2 io2 acc ws ∧
      PoV X.mg G2 (hid H2 D) io2 ((noex (lcGo wk.chk (gD T) tt te (wipeE env vs) (wk.items.drop i) s2)).bind fun ys s' => mk (acc ++ ys) s') Q (WAt W σ),
    ⟨wk.items.length, by simp, Nat.zero_le _, G1, io1, s1, [], [], ?_, ?_, upd_same, RVs.nil, ?_⟩, ?_⟩
  · rw [hid_upd, hid_none hD]; exact Ext.refl
  · rw [hid_upd, hid_none hD]; exact rp1
  · rw [hid_upd, hid_none hD]; exact h1
  rintro i m H2 ⟨rfl, hile, G2, io2, s2, acc, ws, e2, rp2, hDw, rvw, h2⟩
  have rp2' := rp2.unhid
  by_cases hlt : i < wk.items.length
  · have hd : wk.items.drop i = wk.items[i] :: wk.items.drop (i + 1) := List.drop_eq_getElem_cons hlt
    rw [hd] at h2
    unfold lcGo at h2
    have hk2 : wk.chk s2 = true := by
      by_cases z : wk.chk s2 = true
      · exact z
      · rw [if_neg z] at h2; exact h2.elim
    rw [if_pos hk2] at h2
    obtain ⟨go, yl⟩ := (okI G2 H2 io2 s2 e2.g e2.p rp2' hk2 i).1 _ (List.getElem?_eq_getElem hlt)
    refine .inr ⟨go, fun H' => ∃ G' io' s' acc' ws', Ext G1 H1 io1 G' (hid H' D) io' ∧ Rp X.mg G' (hid H' D) io' s' ∧ H' D = some (.lst ws') ∧ RVs X.mg G' io' acc' ws' ∧
      PoV X.mg G' (hid H' D) io' ((noex (lcGo wk.chk (gD T) tt te (wipeE env vs) (wk.items.drop (i + 1)) s')).bind fun ys s'' => mk (acc' ++ ys) s'') Q (WAt W σ), fun H' x => ⟨wk.items.length - (i + 1), by omega, rfl, hlt, x⟩, fun x H3 hy => ?_⟩
    obtain ⟨G3, e3, rp3, rv3⟩ := yl x H3 hy
    have re3 : RE X.mg G3 io2 (wipeE env vs) (wipe σ vs) := RE.wipe (((re.ext e1).ext e2).ext (e3.hid_ (D := D))) vs
    obtain ⟨n0, hD3, g3, n3⟩ := e3.held rp2 hDw
    cases c1 : gD T wk.items[i] (wipeE env vs) s2 with
    | bad => rw [c1] at h2; exact h2.elim
    | ex _ _ => rw [c1] at h2; exact h2.elim
    | ok env1 s3 =>
      rw [c1, R.bind_ok] at h2
      have e23 := e2.trans (e3.hid_ (D := D))
      have key := gD_run (K := X.K) (vs := vs) (tg := T) (env := wipeE env vs) (s := s2) (d := wk.items[i]) (v := x) (E := fun _ _ _ => True) (Q := fun σ2 H4 => tMB X.mg W0 tt σ2 H4 fun b H5 =>
          if b = true then tM X.mg W0 te σ2 H5 fun y H6 => ∃ acc', H6 D = some (.lst acc') ∧ acc'.length < sizeLine ∧ (fun H' => ∃ G' io' s' acc' ws', Ext G1 H1 io1 G' (hid H' D) io' ∧ Rp X.mg G' (hid H' D) io' s' ∧ H' D = some (.lst ws') ∧ RVs X.mg G' io' acc' ws' ∧
      PoV X.mg G' (hid H' D) io' ((noex (lcGo wk.chk (gD T) tt te (wipeE env vs) (wk.items.drop (i + 1)) s')).bind fun ys s'' => mk (acc' ++ ys) s'') Q (WAt W σ)) (upd H6 D (.lst (acc' ++ [y])))
          else (fun H' => ∃ G' io' s' acc' ws', Ext G1 H1 io1 G' (hid H' D) io' ∧ Rp X.mg G' (hid H' D) io' s' ∧ H' D = some (.lst ws') ∧ RVs X.mg G' io' acc' ws' ∧
      PoV X.mg G' (hid H' D) io' ((noex (lcGo wk.chk (gD T) tt te (wipeE env vs) (wk.items.drop (i + 1)) s')).bind fun ys s'' => mk (acc' ++ ys) s'') Q (WAt W σ)) H5) hsl re3 rp3 rv3 ?_
      · rw [wipe_wipe] at key
        exact key
      · rw [c1]
        intro G4 H4 io4 σ4 e4 rp4 re4
        obtain ⟨_, hD4, g4, n4⟩ := e4.held (rp3.hid_ g3 n3) hD3
        refine ⟨G4, io4, env1, s3, re4, rp4, ?_⟩
        cases c2 : tt env1 s3 with
        | bad => rw [c2] at h2; exact h2.elim
        | ex _ _ => rw [c2] at h2; exact h2.elim
        | ok b s5 =>
          rw [c2, R.bind_ok] at h2
          intro G5 H5 io5 b' e5 rp5 rb
          subst rb
          obtain ⟨_, hD5, g5, n5⟩ := e5.held (rp4.hid_ g4 n4) hD4
          have e25 := (e3.trans e4).trans e5
          cases b with
          | false =>
            rw [if_neg Bool.false_ne_true] at h2 ⊢
            exact ⟨G5, io5, s5, acc, ws, e2.trans (e25.hid_ (D := D)), rp5.hid_ g5 n5, hD5, rvw.ext e25, Po.ext (e25.hid_ (D := D)) h2⟩
          | true =>
            rw [if_pos rfl] at h2 ⊢
            refine ⟨G5, io5, env1, s5, re4.ext e5, rp5, ?_⟩
            cases c3 : te env1 s5 with
            | bad => rw [c3] at h2; exact h2.elim
            | ex _ _ => rw [c3] at h2; exact h2.elim
            | ok y s6 =>
              rw [c3, R.bind_ok] at h2
              intro G6 H6 io6 v6 e6 rp6 rv6
              obtain ⟨_, hD6, g6, n6⟩ := e6.held (rp5.hid_ g5 n5) hD5
              have e26 := e25.trans e6
              cases c4 : lcGo wk.chk (gD T) tt te (wipeE env vs) (wk.items.drop (i + 1)) s6 with
              | bad => rw [c4] at h2; exact h2.elim
              | ex _ _ => rw [c4] at h2; exact h2.elim
              | ok ys s7 =>
                rw [c4] at h2
                have h2' : PoV X.mg G2 (hid H2 D) io2 (mk (acc ++ y :: ys) s7) Q (WAt W σ) := h2
                refine ⟨ws, hD6, ?_, G6, io6, s6, acc ++ [y], ws ++ [v6], ?_, ?_, upd_same, (rvw.ext e26).append (RVs.cons rv6 RVs.nil), ?_⟩
                · rw [rvw.len]
                  refine Nat.lt_of_not_le fun hle => ?_
                  rw [hk.sz _ _ (by rw [List.length_append, List.length_cons]; omega)] at h2'
                  exact h2'
                · rw [hid_upd]; exact e2.trans (e26.hid_ (D := D))
                · rw [hid_upd]; exact rp6.hid_ g6 n6
                · rw [hid_upd, c4]
                  show PoV X.mg G6 (hid H6 D) io6 (mk (acc ++ [y] ++ ys) s7) Q (WAt W σ)
                  rw [List.append_assoc]
                  exact Po.ext (e26.hid_ (D := D)) h2'
  · have hn : wk.items.length ≤ i := by omega
    rw [List.drop_eq_nil_of_le hn] at h2
    unfold lcGo at h2
    have hk2 : wk.chk s2 = true := by
      by_cases z : wk.chk s2 = true
      · exact z
      · rw [if_neg z] at h2; exact h2.elim
    rw [if_pos hk2] at h2
    refine .inl ⟨(okI G2 H2 io2 s2 e2.g e2.p rp2' hk2 i).2 (List.getElem?_eq_none hn), ?_⟩
    have h2' : PoV X.mg G2 (hid H2 D) io2 (mk (acc ++ []) s2) Q (WAt W σ) := h2
    rw [List.append_nil] at h2'
    have := (hk.h _ _ _ _ _ _ _ _ _ rp2 rvw h2').2 D hid_self
    rw [upd_hid hDw] at this
    exact this
theorem me_lc {elt tg iter : Expr} {ifs : List Expr} {scope : Scope} {own : List (Str × Nat)} {pos : Pos} {mi : Fr → S → R Wk} {T : Tg} {tt : Fr → S → R Bool} {te : Fr → S → R D} {mk : List D → S → R D} (hk : Mk mk) (hsl : ∀ i ∈ T.slots, i ∈ own.map (·.2)) (hc : X.calm = true) (hN : X.N.Nodup) (hi : MI X W tg iter mi) (ok : BlkOk X.N X.env.scope scope own)
    (hg : ∀ (s : Shared) (H : Hp) (C : Addr) (cl : List (Str × Addr)) (fp : List Addr), PG (X.blk s H scope (compEnvC scope cl C X.env) fp) tg (gOf X.K T))
    (ht : ∀ (s : Shared) (H : Hp) (C : Addr) (cl : List (Str × Addr)) (fp : List Addr), MTs (X.blk s H scope (compEnvC scope cl C X.env) fp) ifs tt)
    (he : ∀ (s : Shared) (H : Hp) (C : Addr) (cl : List (Str × Addr)) (fp : List Addr), ME (X.blk s H scope (compEnvC scope cl C X.env) fp) W0 elt te)
    (hs : ∀ x, foldedSetIterable iter X.env x = pure x := by intro _; rfl) :
    ME X W (.ListComp elt [⟨tg, iter, ifs, 0⟩] scope pos) (mLc mk mi (own.map (·.2)) T tt te) := by
  obtain ⟨wi, pi, qi⟩ := hi.h
  exact ⟨_, pe_lc (g := gOf X.K T) (tt := tMB X.mg W0 tt) (te := tM X.mg W0 te) hc hN pi ok hg (fun a b c d e => (ht a b c d e).h) (fun a b c d e => (he a b c d e).pe) hs, fun G H io env σ s Q re rp h => lc_run hk hsl qi re rp h⟩
/-- name = [..] on one line -/
theorem ms_setLc (i : Nat) {y : Str} {py spos : Pos} {elt tg iter : Expr} {ifs : List Expr} {scope : Scope} {own : List (Str × Nat)} {pos : Pos} {mi : Fr → S → R Wk} {T : Tg} {tt : Fr → S → R Bool} {te : Fr → S → R D} {mk : List D → S → R D} (hk : Mk mk) (hsl : ∀ i ∈ T.slots, i ∈ own.map (·.2)) (hc : X.calm = true) (hN : X.N.Nodup) (hy : X.N[i]? = some y) (hyl : X.env.scope.names.lookup y = some .local) (hi : MI X W tg iter mi) (ok : BlkOk X.N X.env.scope scope own)
    (hg : ∀ (s : Shared) (H : Hp) (C : Addr) (cl : List (Str × Addr)) (fp : List Addr), PG (X.blk s H scope (compEnvC scope cl C X.env) fp) tg (gOf X.K T))
    (ht : ∀ (s : Shared) (H : Hp) (C : Addr) (cl : List (Str × Addr)) (fp : List Addr), MTs (X.blk s H scope (compEnvC scope cl C X.env) fp) ifs tt)
    (he : ∀ (s : Shared) (H : Hp) (C : Addr) (cl : List (Str × Addr)) (fp : List Addr), ME (X.blk s H scope (compEnvC scope cl C X.env) fp) W0 elt te)
    (hsw : swapsWith (.ListComp elt [⟨tg, iter, ifs, 0⟩] scope pos) (some (.Name y py)) spos.line X.env = pure true) (hs : ∀ x, foldedSetIterable iter X.env x = pure x := by intro _; rfl) :
    MS X W (.Assign [.Name y py] (.ListComp elt [⟨tg, iter, ifs, 0⟩] scope pos) spos) (mSet i (mLc mk mi (own.map (·.2)) T tt te)) := by
  obtain ⟨wi, pi, qi⟩ := hi.h
  refine ⟨_, ps_setLc (g := gOf X.K T) (tt := tMB X.mg W0 tt) (te := tM X.mg W0 te) hc hN hy hyl hsw pi ok hg (fun a b c d e => (ht a b c d e).h) (fun a b c d e => (he a b c d e).pe) hs, fun G H io env σ s D re rp h => ?_⟩
  refine lc_run hk hsl qi re rp (PoT.go re h fun d s1 G1 H1 io1 v e1 rp1 rv h => ?_)
  exact h G1 H1 io1 _ Ext.refl rp1 ((re.ext e1).set rv i)
end Mi

set_option Elab.async false
set_option linter.all false
set_option maxRecDepth 100000
/-! Operators and comparisons by values. -/
namespace Mi
open PySem PySem.Spec PyProof.Rows L2
variable {X : Cx} {W : WX}
/-! ### numbers, sums of texts, tuples, lists -/
def addOp (mk : List D → S → R D) (x y : D) (s : S) : R D := match x, y with
  | .int i, .int j => .ok (.int (i + j)) s
  | .str a, .str b => if a.length + b.length ≤ sizeLine then .ok (.str (a ++ b)) s else .bad
  | .tup a, .tup b => mkT (a ++ b) s
  | x, y => match asL x s, asL y s with
    | some a, some b => mk (a ++ b) s
    | _, _ => .bad
theorem ref_or {f : Value → Value → Sem Value} {a b c d : R2} (h1 : OpR X f a) (h2 : OpR X f b) (h3 : OpR X f c) (h4 : OpR X f d) : OpR X f (fun x y H Q => a x y H Q ∨ b x y H Q ∨ c x y H Q ∨ d x y H Q) :=
  h1.or (h2.or (h3.or h4))
theorem mo_add {mk : List D → S → R D} (hk : Mk mk) : MO X (binaryOp .Add) (addOp mk) := by
  refine ⟨_, ref_or op_add op_add_str op_catA op_cat, fun G H io s x y u v Q E rp rx ry h => ?_⟩
  by_cases hi : ∃ i j, x = .int i ∧ y = .int j
  · obtain ⟨i, j, rfl, rfl⟩ := hi
    simp only [RV] at rx ry
    exact .inl ⟨i, j, rx, ry, h.now rp (by simp only [RV])⟩
  by_cases hs : ∃ i j, x = .str i ∧ y = .str j
  · obtain ⟨i, j, rfl, rfl⟩ := hs
    simp only [RV] at rx ry
    have h' : PoV X.mg G H io (if i.length + j.length ≤ sizeLine then .ok (.str (i ++ j)) s else .bad) Q E := h
    split at h'
    · rename_i hl
      exact .inr (.inl ⟨i, j, rx, ry, hl, h'.now rp (by simp only [RV])⟩)
    · exact h'.elim
  by_cases ht : ∃ i j, x = .tup i ∧ y = .tup j
  · obtain ⟨i, j, rfl, rfl⟩ := ht
    simp only [RV] at rx ry
    obtain ⟨a, xs, rfl, ha, rxs⟩ := rx
    obtain ⟨b, ys, rfl, hb, rys⟩ := ry
    have h' : PoV X.mg G H io (mkT (i ++ j) s) Q E := h
    obtain ⟨hl, hn⟩ := mk_t rp (rxs.append rys) h'
    rw [List.length_append] at hl
    refine .inr (.inr (.inl ⟨a, b, xs, ys, rfl, rfl, .of (rp.gh _ _ ha), .of (rp.gh _ _ hb), by rw [rxs.len, rys.len]; exact hl, fun e => ?_, fun _ e => ?_, fun _ _ => hn⟩))
    · subst e
      have ei : i = [] := List.length_eq_zero_iff.mp rxs.len.symm
      subst ei
      unfold mkT at h'
      rw [if_pos (by simpa using hl)] at h'
      exact h'.now rp (by simp only [RV]; exact ⟨b, ys, rfl, hb, rys⟩)
    · subst e
      have ej : j = [] := List.length_eq_zero_iff.mp rys.len.symm
      subst ej
      unfold mkT at h'
      rw [if_pos (by simpa using hl), List.append_nil] at h'
      exact h'.now rp (by simp only [RV]; exact ⟨a, xs, rfl, ha, rxs⟩)
  · have h' : PoV X.mg G H io (match asL x s, asL y s with
      | some a, some b => mk (a ++ b) s
      | _, _ => .bad) Q E := by
      unfold addOp at h
      split at h
      · exact absurd ⟨_, _, rfl, rfl⟩ hi
      · exact absurd ⟨_, _, rfl, rfl⟩ hs
      · exact absurd ⟨_, _, rfl, rfl⟩ ht
      · exact h
    split at h'
    · rename_i a b ha hb
      obtain ⟨p, ps, rfl, hp, rps⟩ := asL_rv rp rx ha
      obtain ⟨q, qs, rfl, hq, rqs⟩ := asL_rv rp ry hb
      obtain ⟨hl, hn⟩ := hk.h _ _ _ _ _ _ _ _ _ rp (rps.append rqs) h'
      rw [List.length_append] at hl
      exact .inr (.inr (.inr ⟨p, q, ps, qs, rfl, rfl, hp, hq, by rw [rps.len, rqs.len]; exact hl, hn⟩))
    · exact h'.elim
def intOp (c : Int → Int → Bool) (f : Int → Int → D) (x y : D) (s : S) : R D := match x, y with
  | .int i, .int j => if c i j = true then .ok (f i j) s else .bad
  | _, _ => .bad
def yesI : Int → Int → Bool := fun _ _ => true
theorem mo_int {g : Value → Value → Sem Value} {c : Int → Int → Bool} {C : Int → Int → Prop} {f : Int → Int → D} {fv : Int → Int → V} (h : OpR X g (rI C fv)) (hc : ∀ i j, c i j = true → C i j) (hf : ∀ (mg : MG) (G : Hp) (io : List Addr) (i j : Int), RV mg G io (f i j) (fv i j)) : MO X g (intOp c f) := by
  refine ⟨_, h, fun G H io s x y u v Q E rp rx ry h => ?_⟩
  cases x <;> first | exact h.elim | skip
  rename_i i
  cases y <;> first | exact h.elim | skip
  rename_i j
  simp only [RV] at rx ry
  have h' : PoV X.mg G H io (if c i j = true then .ok (f i j) s else .bad) Q E := h
  split at h'
  · rename_i hl
    exact ⟨i, j, rx, ry, hc i j hl, h'.now rp (hf _ _ _ _ _)⟩
  · exact h'.elim
theorem rI_of0 {g : Value → Value → Sem Value} {fv : Int → Int → V} (h : OpR X g (rI0 fv)) : OpR X g (rI (fun _ _ => True) fv) := by
  intro pins s σ H x y v u Q I rx ry ⟨i, j, e1, e2, _, q⟩
  exact h pins s σ H x y v u Q I rx ry ⟨i, j, e1, e2, q⟩
def subOp := intOp yesI fun i j => .int (i - j)
def divOp := intOp (fun _ j => decide (0 < j ∧ j.natAbs.log2 < 9000)) fun i j => .int (i / j)
def modOp := intOp (fun _ j => decide (0 < j)) fun i j => .int (i % j)
def powOp := intOp (fun i j => decide (0 ≤ j ∧ j ≤ 1000000 ∧ i.natAbs < 2 ^ 64)) fun i j => .int (i ^ j.toNat)
def shlOp := intOp (fun i j => decide (0 ≤ j ∧ j ≤ 1000000 ∧ i.natAbs < 2 ^ 64)) fun i j => .int (i * 2 ^ j.toNat)
def shrOp := intOp (fun _ j => decide (0 ≤ j)) fun i j => .int (i / 2 ^ j.toNat)
def bandOp := intOp yesI fun i j => .int (Builtin.bitAnd i j)
def borOp := intOp yesI fun i j => .int (Builtin.bitOr i j)
def bxorOp := intOp yesI fun i j => .int (Builtin.bitXor i j)
theorem mo_sub : MO X (binaryOp .Sub) subOp := mo_int (rI_of0 op_sub) (fun _ _ _ => trivial) (fun _ _ _ _ _ => by simp only [RV])
theorem mo_div : MO X (binaryOp .FloorDiv) divOp := mo_int op_fdivW (fun i j h => by have h' : decide (0 < j ∧ j.natAbs.log2 < 9000) = true := h; have q := of_decide_eq_true h'; exact q) (fun _ _ _ _ _ => by simp only [RV])
theorem mo_mod : MO X (binaryOp .Mod) modOp := mo_int op_mod (fun i j h => by have h' : decide (0 < j) = true := h; have q := of_decide_eq_true h'; exact q) (fun _ _ _ _ _ => by simp only [RV])
theorem mo_pow : MO X (binaryOp .Pow) powOp := mo_int op_pow (fun i j h => by have h' : decide (0 ≤ j ∧ j ≤ 1000000 ∧ i.natAbs < 2 ^ 64) = true := h; have q := of_decide_eq_true h'; exact q) (fun _ _ _ _ _ => by simp only [RV])
theorem mo_shl : MO X (binaryOp .LShift) shlOp := mo_int op_shl (fun i j h => by have h' : decide (0 ≤ j ∧ j ≤ 1000000 ∧ i.natAbs < 2 ^ 64) = true := h; have q := of_decide_eq_true h'; exact q) (fun _ _ _ _ _ => by simp only [RV])
theorem mo_shr : MO X (binaryOp .RShift) shrOp := mo_int op_shr (fun i j h => by have h' : decide (0 ≤ j) = true := h; have q := of_decide_eq_true h'; exact q) (fun _ _ _ _ _ => by simp only [RV])
theorem mo_band : MO X (binaryOp .BitAnd) bandOp := mo_int (rI_of0 op_and) (fun _ _ _ => trivial) (fun _ _ _ _ _ => by simp only [RV])
theorem mo_bor : MO X (binaryOp .BitOr) borOp := mo_int (rI_of0 op_or) (fun _ _ _ => trivial) (fun _ _ _ _ _ => by simp only [RV])
theorem mo_bxor : MO X (binaryOp .BitXor) bxorOp := mo_int (rI_of0 op_xor) (fun _ _ _ => trivial) (fun _ _ _ _ _ => by simp only [RV])
/-- products; a list so many times -/
def mulOp (mk : List D → S → R D) (x y : D) (s : S) : R D := match x, y with
  | .int i, .int j => if i.natAbs.log2 + j.natAbs.log2 < 1000000 then .ok (.int (i * j)) s else .bad
  | x, .int k => match asL x s with
    | some xs => if -(2 ^ 63) ≤ k ∧ k < 2 ^ 63 then mk (List.replicate k.toNat xs).flatten s else .bad
    | none => .bad
  | _, _ => .bad
theorem RVs.rep {mg : MG} {G : Hp} {io : List Addr} {ds : List D} {vs : List V} (h : RVs mg G io ds vs) : ∀ n : Nat, RVs mg G io (List.replicate n ds).flatten (List.replicate n vs).flatten
  | 0 => RVs.nil
  | n + 1 => by
    rw [List.replicate_succ, List.replicate_succ, List.flatten_cons, List.flatten_cons]
    exact h.append (RVs.rep h n)
theorem mo_mul {mk : List D → S → R D} (hk : Mk mk) : MO X (binaryOp .Mult) (mulOp mk) := by
  refine ⟨_, op_mulW.or op_rep, fun G H io s x y u v Q E rp rx ry h => ?_⟩
  by_cases hi : ∃ i j, x = .int i ∧ y = .int j
  · obtain ⟨i, j, rfl, rfl⟩ := hi
    simp only [RV] at rx ry
    have h' : PoV X.mg G H io (if i.natAbs.log2 + j.natAbs.log2 < 1000000 then .ok (.int (i * j)) s else .bad) Q E := h
    split at h'
    · rename_i hl
      exact .inl ⟨i, j, rx, ry, hl, h'.now rp (by simp only [RV])⟩
    · exact h'.elim
  · unfold mulOp at h
    split at h
    · exact absurd ⟨_, _, rfl, rfl⟩ hi
    · rename_i k _
      split at h
      · rename_i xs hx
        split at h
        · rename_i hb
          obtain ⟨p, ps, rfl, hp, rps⟩ := asL_rv rp rx hx
          simp only [RV] at ry
          obtain ⟨hl, hn⟩ := hk.h _ _ _ _ _ _ _ _ _ rp (rps.rep k.toNat) h
          refine .inr ⟨p, k, ps, rfl, ry, hp, hb.1, hb.2, ?_, hn⟩
          rw [List.length_flatten, List.map_replicate, List.sum_replicate_nat] at hl
          rw [rps.len, Nat.mul_comm]
          exact hl
        · exact h.elim
      · exact h.elim
    · exact h.elim
/-- -x -/
structure MU (X : Cx) (f : Value → Sem Value) (g : D → S → R D) : Prop where
  h : ∃ r, UnR X f r ∧ ∀ (G H : Hp) (io : List Addr) (s : S) (x : D) (u : V) (Q : VK) (E : XK), Rp X.mg G H io s → RV X.mg G io x u → PoV X.mg G H io (g x s) Q E → r u H Q
def negOp (x : D) (s : S) : R D := match x with
  | .int i => .ok (.int (-i)) s
  | _ => .bad
theorem mu_neg : MU X (unaryOp .USub) negOp := by
  refine ⟨_, un_neg, fun G H io s x u Q E rp rx h => ?_⟩
  cases x <;> first | exact h.elim | skip
  simp only [RV] at rx
  exact ⟨_, rx, h.now rp (by simp only [RV])⟩
def mUn (g : D → S → R D) (a : Fr → S → R D) : Fr → S → R D := fun env s => (a env s).bind g
theorem me_un {a : Expr} {op : UnaryOp} {g : D → S → R D} {ma : Fr → S → R D} {pos : Pos} (ho : MU X (unaryOp op) g) (ha : ME X W a ma) : ME X W (.UnaryOp op a pos) (mUn g ma) := by
  obtain ⟨r, ho, hr⟩ := ho.h
  obtain ⟨t, p, q⟩ := ha.h
  exact ⟨_, pe_un ho p, fun G H io env σ s Q re rp h => q G H io env σ s _ re rp (Po.bind h fun x s1 G1 H1 io1 v e1 rp1 rv h => hr G1 H1 io1 s1 x v Q _ rp1 rv h)⟩
/-! ### data -/
def py : Nat → S → D → Option PyData
  | 0, _, _ => none
  | n + 1, s, d => match d with
    | .non => some .none
    | .bl b => some (.bool b)
    | .int i => some (.int i)
    | .str x => some (.str x)
    | .tup xs => (xs.mapM (py n s)).map .tuple
    | .lst xs => (xs.mapM (py n s)).map .list
    | .scr xs => (xs.mapM (py n s)).map .list
    | .ref i => match s[i]? with
      | some (.lst xs) => (xs.mapM (py n s)).map .list
      | _ => none
    | _ => none
abbrev pyD : S → D → Option PyData := py 40
theorem dp_all {K : PySem.W.Frag} {mg : MG} {G H : Hp} {io : List Addr} {f : D → Option PyData} (hf : ∀ (x : D) (v : V) (d : PyData), RV mg G io x v → f x = some d → Dp K H v d) : ∀ (xs : List D) (vs : List V) (ds : List PyData), RVs mg G io xs vs → xs.mapM f = some ds → DpAll K H vs ds
  | [], vs, ds, r, h => by
    rw [r.nil_inv]
    simp at h
    subst h
    exact .nil
  | x :: xs, vs, ds, r, h => by
    obtain ⟨v, vr, rfl, r1, rr⟩ := r.cons_inv
    rw [List.mapM_cons] at h
    cases c : f x with
    | none => rw [c] at h; cases h
    | some d =>
      cases c2 : xs.mapM f with
      | none => rw [c, c2] at h; cases h
      | some es =>
        rw [c, c2] at h
        cases h
        exact .cons (hf x v d r1 c) (dp_all hf xs vr es rr c2)
theorem py_dp {K : PySem.W.Frag} {mg : MG} {G H : Hp} {io : List Addr} {s : S} (rp : Rp mg G H io s) : ∀ (n : Nat) (x : D) (v : V) (d : PyData), RV mg G io x v → py n s x = some d → Dp K H v d
  | 0, _, _, _, _, h => by cases h
  | n + 1, x, v, d, r, h => by
    have ih := dp_all (K := K) (H := H) (mg := mg) (G := G) (io := io) (f := py n s) (py_dp rp n)
    cases x <;> first | (cases h; done) | skip
    · cases h; simp only [RV] at r; subst r; exact .non
    · cases h; simp only [RV] at r; subst r; exact .bl _
    · cases h; simp only [RV] at r; subst r; exact .int _
    · cases h; simp only [RV] at r; subst r; exact .str _
    · rename_i xs
      simp only [RV] at r
      obtain ⟨a, vs, rfl, ha, rvs⟩ := r
      have h' : (xs.mapM (py n s)).map PyData.tuple = some d := h
      obtain ⟨ds, h1, rfl⟩ := Option.map_eq_some_iff.mp h'
      exact .tup (.of (rp.gh _ _ ha)) (ih xs vs ds rvs h1)
    · rename_i xs
      simp only [RV] at r
      obtain ⟨a, vs, rfl, ha, rvs⟩ := r
      have h' : (xs.mapM (py n s)).map PyData.list = some d := h
      obtain ⟨ds, h1, rfl⟩ := Option.map_eq_some_iff.mp h'
      exact .lst (.of (rp.gh _ _ ha)) (ih xs vs ds rvs h1)
    · rename_i i
      simp only [RV] at r
      obtain ⟨a, rfl, hi⟩ := r
      unfold py at h
      dsimp only at h
      split at h
      · rename_i xs hs
        obtain ⟨_, vs, h1, h2⟩ := rp.cell i a _ hi hs
        obtain ⟨ds, h3, rfl⟩ := Option.map_eq_some_iff.mp h
        exact .lst (.of h1) (ih xs vs ds h2 h3)
      · cases h
    · rename_i xs
      simp only [RV] at r
      obtain ⟨a, o, vs, rfl, ha, rvs⟩ := r
      have h' : (xs.mapM (py n s)).map PyData.list = some d := h
      obtain ⟨ds, h1, rfl⟩ := Option.map_eq_some_iff.mp h'
      exact .lst (.inl (.inr ⟨o, rp.gh _ _ ha⟩)) (ih xs vs ds rvs h1)
def dataOp (f : PyData → PyData → Option Bool) (x y : D) (s : S) : R D := match pyD s x, pyD s y with
  | some a, some b => match f a b with
    | some k => .ok (.bl k) s
    | none => .bad
  | _, _ => .bad
theorem mo_data {g : Value → Value → Sem Value} {f : PyData → PyData → Option Bool} (h : OpR X g (fun x y H Q => ∃ d e k, Dp X.K H x d ∧ Dp X.K H y e ∧ f d e = some k ∧ Q (.bl k) H)) : MO X g (dataOp f) := by
  refine ⟨_, h, fun G H io s x y u v Q E rp rx ry h => ?_⟩
  unfold dataOp at h
  split at h
  · rename_i a b ha hb
    split at h
    · rename_i k hk
      exact ⟨a, b, k, py_dp rp _ _ _ _ rx ha, py_dp rp _ _ _ _ ry hb, hk, h.now rp (by simp only [RV])⟩
    · exact h.elim
  · exact h.elim
def eqF (a b : PyData) : Option Bool := if (SeqAt.shaped a && SeqAt.shaped b) = true then some (PyData.eqv a b) else none
def neF (a b : PyData) : Option Bool := if (SeqAt.shaped a && SeqAt.shaped b) = true then some (!PyData.eqv a b) else none
def eqOp := dataOp eqF
def neOp := dataOp neF
theorem mo_eq (hu : X.A.units + 64 < cLine) : MO X (compareOp .Eq) eqOp := mo_data fun pins s σ H x y v u Q I rx ry ⟨d, e, k, hd, he, hk, q⟩ => by
  unfold eqF at hk
  split at hk
  · rename_i hs
    cases hk
    rw [Bool.and_eq_true] at hs
    exact op_eqD hu pins s σ H x y v u Q I rx ry ⟨d, e, hd, he, hs.1, hs.2, q⟩
  · cases hk
theorem mo_ne (hu : X.A.units + 64 < cLine) : MO X (compareOp .NotEq) neOp := mo_data fun pins s σ H x y v u Q I rx ry ⟨d, e, k, hd, he, hk, q⟩ => by
  unfold neF at hk
  split at hk
  · rename_i hs
    cases hk
    rw [Bool.and_eq_true] at hs
    exact op_neD hu pins s σ H x y v u Q I rx ry ⟨d, e, hd, he, hs.1, hs.2, q⟩
  · cases hk
def notNon : PyData → Bool
  | .none => false
  | _ => true
theorem notNon_ne {d : PyData} (h : notNon d = true) : d ≠ .none := fun e => by rw [e] at h; cases h
def ordF (f : PyData → PyData → Bool) (a b : PyData) : Option Bool := if (PySem.W.alike a b && notNon a && decide (a.depth ≤ 60)) = true then some (f a b) else none
theorem ordF_is {f : PyData → PyData → Bool} {a b : PyData} {k : Bool} (h : ordF f a b = some k) : PySem.W.alike a b = true ∧ a ≠ .none ∧ a.depth ≤ 60 ∧ k = f a b := by
  unfold ordF at h
  split at h
  · rename_i q
    cases h
    simp only [Bool.and_eq_true, decide_eq_true_eq] at q
    exact ⟨q.1.1, notNon_ne q.1.2, q.2, rfl⟩
  · cases h
theorem mo_ord {op : CmpOp} {f : PyData → PyData → Bool} (hu : X.A.units + 64 < cLine)
    (rule : ∀ {s : Shared} {a b : Value} {da db : PyData} {as bs : List Addr} {Q : Value → Shared → Prop}, Reads s.heap a da as → Reads s.heap b db bs → PySem.W.alike da db = true → da ≠ .none → X.A.units + min da.depth db.depth < cLine → Q (.bool (f da db)) s →
      wpAny (model X.prog X.w) X.A (compareOp op a b) Q X.xe s) : MO X (compareOp op) (dataOp (ordF f)) := mo_data fun pins s σ H x y v u Q I rx ry ⟨d, e, k, hd, he, hk, q⟩ => by
  obtain ⟨h1, h2, h3, rfl⟩ := ordF_is hk
  obtain ⟨as, r1⟩ := Dp.reads I d x v hd rx
  obtain ⟨bs, r2⟩ := Dp.reads I e y u he ry
  exact rule r1 r2 h1 h2 (by have := Nat.min_le_left d.depth e.depth; omega) ⟨.bl _, H, I, rfl, q⟩
def ltOp := dataOp (ordF PySem.W.dataLt)
def gtOp := dataOp (ordF fun a b => PySem.W.dataLt b a)
def leOp := dataOp (ordF fun a b => !PySem.W.dataLt b a)
def geOp := dataOp (ordF fun a b => !PySem.W.dataLt a b)
theorem mo_lt (hu : X.A.units + 64 < cLine) : MO X (compareOp .Lt) ltOp := mo_ord hu PySem.W.lt_data
theorem mo_gt (hu : X.A.units + 64 < cLine) : MO X (compareOp .Gt) gtOp := mo_ord hu PySem.W.gt_data
theorem mo_le (hu : X.A.units + 64 < cLine) : MO X (compareOp .LtE) leOp := mo_ord hu PySem.W.le_data
theorem mo_ge (hu : X.A.units + 64 < cLine) : MO X (compareOp .GtE) geOp := mo_ord hu PySem.W.ge_data
/-- x is None, x is True -/
def isOp (neg : Bool) (x y : D) (s : S) : R D := match y with
  | .non => .ok (.bl (match x with | .non => !neg | _ => neg)) s
  | .bl c => match x with
    | .bl b => .ok (.bl (if neg then !decide (b = c) else decide (b = c))) s
    | _ => .bad
  | _ => .bad
end Mi

set_option Elab.async false
set_option linter.all false
set_option maxRecDepth 100000
/-! Membership, built-in calls, subscripts, methods of lists. -/
namespace Mi
open PySem PySem.Spec PyProof.Rows L2
variable {X : Cx} {W : WX}
/-! ### in -/
def seqOf : PyData → Option (List PyData)
  | .list xs => some xs
  | .tuple xs => some xs
  | _ => none
def inF (neg : Bool) (a b : PyData) : Option Bool := match seqOf b with
  | some ds => if (SeqAt.shaped a && SeqAt.shaped b) = true then some (if neg then !ds.any fun z => PyData.eqv z a else ds.any fun z => PyData.eqv z a) else none
  | none => none
def inOp := dataOp (inF false)
def notInOp := dataOp (inF true)
theorem room_tup {A : Around} {d : PyData} {ds : List PyData} (sd : SeqAt.shaped d = true) (hu : A.units + 65 < cLine) : A.units + 1 + min (PyData.depthAll ds) d.depth < cLine := by
  have h1 := SeqAt.depth_of_shaped sd
  have h2 := Nat.min_le_right (PyData.depthAll ds) d.depth
  omega
theorem lay_list {ds : List PyData} (h : SeqAt.shaped (.list ds) = true) : PyData.canLayAll0 ds = true := by
  have := SeqAt.canLay_of_shaped h
  simpa [PyData.canLay0] using this
theorem lay_tup {ds : List PyData} (h : SeqAt.shaped (.tuple ds) = true) : PyData.canLayAll0 ds = true := by
  have := SeqAt.canLay_of_shaped h
  simpa [PyData.canLay0] using this
theorem mo_in (hu : X.A.units + 65 < cLine) : MO X (compareOp .In) inOp := mo_data fun pins s σ H x y v u Q I rx ry ⟨d, e, k, hd, he, hk, q⟩ => by
  unfold inF at hk
  split at hk
  · rename_i ds hds
    split at hk
    · rename_i hs
      cases hk
      rw [Bool.and_eq_true] at hs
      obtain ⟨as, r1⟩ := Dp.reads I d x v hd rx
      obtain ⟨bs, r2⟩ := Dp.reads I e y u he ry
      cases e <;> first | (cases hds; done) | skip
      · cases hds
        exact SeqAt.in_list_reads r2 r1 (lay_list hs.2) (SeqAt.canLay_of_shaped hs.1) (room_tup hs.1 hu) ⟨.bl _, H, I, rfl, q⟩
      · cases hds
        exact SeqAt.in_tuple_reads r2 r1 (lay_tup hs.2) (SeqAt.canLay_of_shaped hs.1) (room_tup hs.1 hu) ⟨.bl _, H, I, rfl, q⟩
    · cases hk
  · cases hk
theorem mo_notIn (hu : X.A.units + 65 < cLine) : MO X (compareOp .NotIn) notInOp := mo_data fun pins s σ H x y v u Q I rx ry ⟨d, e, k, hd, he, hk, q⟩ => by
  unfold inF at hk
  split at hk
  · rename_i ds hds
    split at hk
    · rename_i hs
      cases hk
      rw [Bool.and_eq_true] at hs
      obtain ⟨as, r1⟩ := Dp.reads I d x v hd rx
      obtain ⟨bs, r2⟩ := Dp.reads I e y u he ry
      cases e <;> first | (cases hds; done) | skip
      · cases hds
        exact SeqAt.notIn_list_reads r2 r1 (lay_list hs.2) (SeqAt.canLay_of_shaped hs.1) (room_tup hs.1 hu) ⟨.bl _, H, I, rfl, q⟩
      · cases hds
        exact SeqAt.notIn_tuple_reads r2 r1 (lay_tup hs.2) (SeqAt.canLay_of_shaped hs.1) (room_tup hs.1 hu) ⟨.bl _, H, I, rfl, q⟩
    · cases hk
  · cases hk
/-! ### is None -/
def isN (neg : Bool) (x y : D) (s : S) : R D := match x, y with
  | .glo _, _ => .bad
  | .non, .non => .ok (.bl (!neg)) s
  | _, .non => .ok (.bl neg) s
  | _, _ => .bad
theorem rv_non {mg : MG} {G : Hp} {io : List Addr} {d : D} {v : V} (h : RV mg G io d v) (h1 : ∀ x, d ≠ .glo x) (h2 : d ≠ .non) : v ≠ .non := by
  cases d <;> simp only [RV] at h
  · exact absurd rfl h2
  · rw [h]; intro z; cases z
  · rw [h]; intro z; cases z
  · rw [h]; intro z; cases z
  · rw [h]; intro z; cases z
  · obtain ⟨_, _, rfl, _⟩ := h; intro z; cases z
  · obtain ⟨_, _, rfl, _⟩ := h; intro z; cases z
  · obtain ⟨_, _, rfl, _⟩ := h; intro z; cases z
  · obtain ⟨_, _, _, _, rfl, _⟩ := h; intro z; cases z
  · obtain ⟨_, rfl, _⟩ := h; intro z; cases z
  · exact absurd rfl (h1 _)
  · obtain ⟨_, _, _, rfl, _⟩ := h; intro z; cases z
theorem isN_po {mg : MG} {neg : Bool} {G H : Hp} {io : List Addr} {s : S} {x y : D} {u v : V} {Q : VK} {E : XK} (rp : Rp mg G H io s) (rx : RV mg G io x u) (ry : RV mg G io y v) (h : PoV mg G H io (isN neg x y s) Q E) : v = .non ∧ Q (.bl (if neg then !decide (u = .non) else decide (u = .non))) H := by
  by_cases hg : ∃ n, x = .glo n
  · obtain ⟨n, rfl⟩ := hg
    exact h.elim
  cases y <;> first | (cases x <;> exact h.elim) | skip
  simp only [RV] at ry
  refine ⟨ry, ?_⟩
  by_cases hx : x = .non
  · subst hx
    simp only [RV] at rx
    subst rx
    have := h.now (b := .bl (!neg)) rp (by simp only [RV])
    cases neg <;> simpa using this
  · have hu := rv_non rx (fun n e => hg ⟨n, e⟩) hx
    have hh : PoV mg G H io (.ok (.bl neg) s) Q E := by
      cases x <;> first | exact h | exact absurd rfl hx | exact h.elim
    have := hh.now (b := .bl neg) rp (by simp only [RV])
    cases neg <;> simpa [hu] using this
theorem mo_isN : MO X (compareOp .Is) (isN false) := ⟨_, op_isN, fun G H io s x y u v Q E rp rx ry h => by
  obtain ⟨h1, h2⟩ := isN_po rp rx ry h
  exact ⟨h1, by simpa using h2⟩⟩
theorem mo_notN : MO X (compareOp .IsNot) (isN true) := ⟨_, op_notN, fun G H io s x y u v Q E rp rx ry h => by
  obtain ⟨h1, h2⟩ := isN_po rp rx ry h
  exact ⟨h1, by simpa using h2⟩⟩
/-! ### calls of built-ins -/
structure MCl (X : Cx) (f : Value) (g : List D → S → R D) : Prop where
  h : ∃ r, CallR X f r ∧ ∀ (G H : Hp) (io : List Addr) (s : S) (ds : List D) (vs : List V) (Q : VK) (E : XK), Rp X.mg G H io s → RVs X.mg G io ds vs → PoV X.mg G H io (g ds s) Q E → r vs H Q
section
variable {x : Str} {id T : String} {e : Expr} {es : List Expr} {p pos : Pos} {ms : Fr → S → R (List D)} {g : List D → S → R D}
theorem me_callB (hc : MCl X (.builtin id) g) (hg : Gl X x) (hm : X.mg x = none) (hv : bootBuiltins x = some (.builtin id)) (ha : MA X W (e :: es) ms) (hn : x ≠ "__name__" := by decide) (hdb : (x == ("__debug__" : Str)) = false := by decide)
    (he : starEach (e :: es) X.env = (false, eval e X.env) :: starEach es X.env := by rfl) (hpl : (backTo pos (starEach es X.env)).any (·.1) = false := by rfl) : ME X W (.Call (.Name x p) (e :: es) [] pos) (mCall g ms) := by
  obtain ⟨r, hc, hr⟩ := hc.h
  obtain ⟨t, pa, qa⟩ := ha.h
  exact ⟨_, pe_callB hc hg hm hv pa hn hdb he hpl, fun G H io env σ s Q re rp h => qa G H io env σ s _ re rp (Po.bind h fun ds s1 G1 H1 io1 vs e1 rp1 rv h => hr G1 H1 io1 s1 ds vs Q _ rp1 rv h)⟩
theorem me_callTy (hc : MCl X (.type T) g) (hg : Gl X x) (hm : X.mg x = none) (hv : bootBuiltins x = some (.type T)) (ha : MA X W (e :: es) ms) (hn : x ≠ "__name__" := by decide) (hdb : (x == ("__debug__" : Str)) = false := by decide)
    (he : starEach (e :: es) X.env = (false, eval e X.env) :: starEach es X.env := by rfl) (hpl : (backTo pos (starEach es X.env)).any (·.1) = false := by rfl) : ME X W (.Call (.Name x p) (e :: es) [] pos) (mCall g ms) := by
  obtain ⟨r, hc, hr⟩ := hc.h
  obtain ⟨t, pa, qa⟩ := ha.h
  exact ⟨_, pe_callTy hc hg hm hv pa hn hdb he hpl, fun G H io env σ s Q re rp h => qa G H io env σ s _ re rp (Po.bind h fun ds s1 G1 H1 io1 vs e1 rp1 rv h => hr G1 H1 io1 s1 ds vs Q _ rp1 rv h)⟩
end
/-- one argument that is a sequence -/
def seq1 (f : List D → S → R D) (ds : List D) (s : S) : R D := match ds with
  | [d] => match asQ d s with
    | some xs => f xs s
    | none => .bad
  | _ => .bad
theorem seq1_po {mg : MG} {K : PySem.W.Frag} {f : List D → S → R D} {G H : Hp} {io : List Addr} {s : S} {ds : List D} {vs : List V} {Q : VK} {E : XK} (rp : Rp mg G H io s) (rv : RVs mg G io ds vs) (h : PoV mg G H io (seq1 f ds s) Q E) :
    ∃ d a xs ws, ds = [d] ∧ asQ d s = some xs ∧ vs = [.ref a] ∧ RV mg G io d (.ref a) ∧ ((SqL K H a ws ∧ ∀ zs, d ≠ .tup zs) ∨ (SqT K H a ws ∧ d = .tup xs)) ∧ RVs mg G io xs ws ∧ PoV mg G H io (f xs s) Q E := by
  unfold seq1 at h
  split at h
  · rename_i d
    split at h
    · rename_i xs hx
      obtain ⟨v, r, rfl, r1, rr⟩ := rv.cons_inv
      have hr := rr.nil_inv
      subst hr
      obtain ⟨a, ws, rfl, h1, h2⟩ := asQ_rv2 (K := K) rp r1 hx
      exact ⟨d, a, xs, ws, rfl, hx, rfl, r1, h1, h2, h⟩
    · exact h.elim
  · exact h.elim
theorem either {K : PySem.W.Frag} {H : Hp} {a : Addr} {ws : List V} {A B : Prop} (h : (SqL K H a ws ∧ A) ∨ (SqT K H a ws ∧ B)) : SqL K H a ws ∨ SqT K H a ws := h.elim (fun z => .inl z.1) fun z => .inr z.1
def lenOp (ds : List D) (s : S) : R D := match ds with
  | [.str x] => if x.length ≤ sizeLine then .ok (.int x.length) s else .bad
  | ds => seq1 (fun xs s => .ok (.int xs.length) s) ds s
theorem mc_len : MCl X (.builtin "len") lenOp := by
  refine ⟨_, call_len_seq.or call_len_str, fun G H io s ds vs Q E rp rv h => ?_⟩
  by_cases hs : ∃ x, ds = [.str x]
  · obtain ⟨x, rfl⟩ := hs
    obtain ⟨v, r, rfl, r1, rr⟩ := rv.cons_inv
    have hr := rr.nil_inv
    subst hr
    simp only [RV] at r1
    subst r1
    have h' : PoV X.mg G H io (if x.length ≤ sizeLine then .ok (.int x.length) s else .bad) Q E := h
    split at h'
    · rename_i hl
      exact .inr ⟨x, rfl, hl, h'.now rp (by simp only [RV])⟩
    · exact h'.elim
  · have h' : PoV X.mg G H io (seq1 (fun xs s => .ok (.int xs.length) s) ds s) Q E := by
      unfold lenOp at h
      split at h
      · exact absurd ⟨_, rfl⟩ hs
      · exact h
    obtain ⟨d, a, xs, ws, rfl, hx, rfl, r1, h1, h2, h3⟩ := seq1_po (K := X.K) rp rv h'
    exact .inl ⟨a, ws, rfl, either h1, h3.now rp (by simp only [RV]; rw [h2.len])⟩
def listOp (mk : List D → S → R D) := seq1 mk
theorem mc_list {mk : List D → S → R D} (hk : Mk mk) : MCl X (.type "list") (listOp mk) := ⟨_, call_list_of, fun G H io s ds vs Q E rp rv h => by
  obtain ⟨d, a, xs, ws, rfl, hx, rfl, r1, h1, h2, h3⟩ := seq1_po (K := X.K) rp rv h
  exact ⟨a, ws, rfl, either h1, (hk.h _ _ _ _ _ _ _ _ _ rp h2 h3).2⟩⟩
def tupleOp := seq1 mkT
theorem mc_tuple : MCl X (.type "tuple") tupleOp := ⟨_, call_tuple_of, fun G H io s ds vs Q E rp rv h => by
  obtain ⟨d, a, xs, ws, rfl, hx, rfl, r1, h1, h2, h3⟩ := seq1_po (K := X.K) rp rv h
  refine ⟨a, ws, rfl, ?_⟩
  rcases h1 with ⟨h1, _⟩ | ⟨h1, rfl⟩
  · exact .inl ⟨h1, (mk_t rp h2 h3).2⟩
  · refine .inr ⟨h1, ?_⟩
    unfold mkT at h3
    rw [if_pos (mk_t rp h2 h3).1] at h3
    exact h3.now rp r1⟩
/-- int(x) of an int or a truth -/
def int1 (ds : List D) (s : S) : R D := match ds with
  | [.int i] => .ok (.int i) s
  | [.bl b] => .ok (.int (if b = true then 1 else 0)) s
  | _ => .bad
theorem rv1 {mg : MG} {G : Hp} {io : List Addr} {d : D} {vs : List V} (h : RVs mg G io [d] vs) : ∃ v, vs = [v] ∧ RV mg G io d v := by
  obtain ⟨v, r, rfl, r1, rr⟩ := h.cons_inv
  rw [rr.nil_inv]
  exact ⟨v, rfl, r1⟩
theorem rv2 {mg : MG} {G : Hp} {io : List Addr} {d e : D} {vs : List V} (h : RVs mg G io [d, e] vs) : ∃ v w, vs = [v, w] ∧ RV mg G io d v ∧ RV mg G io e w := by
  obtain ⟨v, r, rfl, r1, rr⟩ := h.cons_inv
  obtain ⟨w, rfl, r2⟩ := rv1 rr
  exact ⟨v, w, rfl, r1, r2⟩
theorem mc_int : MCl X (.type "int") int1 := ⟨_, call_int1, fun G H io s ds vs Q E rp rv h => by
  unfold int1 at h
  split at h
  · obtain ⟨v, rfl, r1⟩ := rv1 rv
    simp only [RV] at r1
    subst r1
    exact .inl ⟨_, rfl, h.now rp (by simp only [RV])⟩
  · obtain ⟨v, rfl, r1⟩ := rv1 rv
    simp only [RV] at r1
    subst r1
    exact .inr ⟨_, rfl, h.now rp (by simp only [RV])⟩
  · exact h.elim⟩
/-- lists of ints, of truths -/
def asI : D → Option Int
  | .int i => some i
  | _ => none
def asBl : D → Option Bool
  | .bl b => some b
  | _ => none
theorem ints_rv {mg : MG} {G : Hp} {io : List Addr} : ∀ {xs : List D} {vs : List V} {ns : List Int}, RVs mg G io xs vs → xs.mapM asI = some ns → vs = ns.map V.int
  | [], vs, ns, r, h => by
    simp at h
    subst h
    rw [r.nil_inv]
    rfl
  | x :: xs, vs, ns, r, h => by
    obtain ⟨v, vr, rfl, r1, rr⟩ := r.cons_inv
    rw [List.mapM_cons] at h
    cases x <;> first | (cases h; done) | skip
    rename_i i
    cases c : xs.mapM asI with
    | none => rw [c] at h; cases h
    | some ms =>
      rw [c] at h
      cases h
      simp only [RV] at r1
      subst r1
      rw [ints_rv rr c]
      rfl
theorem bls_rv {mg : MG} {G : Hp} {io : List Addr} : ∀ {xs : List D} {vs : List V} {ns : List Bool}, RVs mg G io xs vs → xs.mapM asBl = some ns → vs = ns.map V.bl
  | [], vs, ns, r, h => by
    simp at h
    subst h
    rw [r.nil_inv]
    rfl
  | x :: xs, vs, ns, r, h => by
    obtain ⟨v, vr, rfl, r1, rr⟩ := r.cons_inv
    rw [List.mapM_cons] at h
    cases x <;> first | (cases h; done) | skip
    rename_i i
    cases c : xs.mapM asBl with
    | none => rw [c] at h; cases h
    | some ms =>
      rw [c] at h
      cases h
      simp only [RV] at r1
      subst r1
      rw [bls_rv rr c]
      rfl
/-- one argument that is a list of f's -/
def fold1 {α : Type} (as : D → Option α) (f : List α → Option D) (ds : List D) (s : S) : R D := match ds with
  | [.tup _] => .bad
  | ds => seq1 (fun xs s => match xs.mapM as with
    | some ns => match f ns with
      | some d => .ok d s
      | none => .bad
    | none => .bad) ds s
theorem fold1_po {α : Type} {as : D → Option α} {f : List α → Option D} {mg : MG} {K : PySem.W.Frag} {G H : Hp} {io : List Addr} {s : S} {ds : List D} {vs : List V} {Q : VK} {E : XK} (rp : Rp mg G H io s) (rv : RVs mg G io ds vs) (h : PoV mg G H io (fold1 as f ds s) Q E) :
    ∃ a xs ws ns d, vs = [.ref a] ∧ SqL K H a ws ∧ RVs mg G io xs ws ∧ xs.mapM as = some ns ∧ f ns = some d ∧ PoV mg G H io (.ok d s) Q E := by
  unfold fold1 at h
  split at h
  · exact h.elim
  · rename_i hn
    obtain ⟨d, a, xs, ws, rfl, hx, rfl, r1, h1, h2, h3⟩ := seq1_po (K := K) rp rv h
    split at h3
    · rename_i ns hns
      split at h3
      · rename_i e he
        rcases h1 with ⟨h1, _⟩ | ⟨_, rfl⟩
        · exact ⟨a, xs, ws, ns, e, rfl, h1, h2, hns, he, h3⟩
        · exact absurd rfl (hn _)
      · exact h3.elim
    · exact h3.elim
def sumOp := fold1 asI fun ns => some (.int ns.sum)
def anyOp := fold1 asBl fun bs => some (.bl (bs.any id))
def allOp := fold1 asBl fun bs => some (.bl (bs.all id))
theorem mc_sum (hc : X.calm = true) : MCl X (.builtin "sum") sumOp := ⟨_, cr_sum hc, fun G H io s ds vs Q E rp rv h => by
  obtain ⟨a, xs, ws, ns, d, rfl, h1, h2, h3, h4, h5⟩ := fold1_po (K := X.K) rp rv h
  cases h4
  rw [ints_rv h2 h3] at h1
  exact ⟨a, ns, rfl, h1, h5.now rp (by simp only [RV])⟩⟩
theorem mc_any (hc : X.calm = true) : MCl X (.builtin "any") anyOp := ⟨_, cr_any hc, fun G H io s ds vs Q E rp rv h => by
  obtain ⟨a, xs, ws, ns, d, rfl, h1, h2, h3, h4, h5⟩ := fold1_po (K := X.K) rp rv h
  cases h4
  rw [bls_rv h2 h3] at h1
  exact ⟨a, ns, rfl, h1, h5.now rp (by simp only [RV])⟩⟩
theorem mc_all (hc : X.calm = true) : MCl X (.builtin "all") allOp := ⟨_, cr_all hc, fun G H io s ds vs Q E rp rv h => by
  obtain ⟨a, xs, ws, ns, d, rfl, h1, h2, h3, h4, h5⟩ := fold1_po (K := X.K) rp rv h
  cases h4
  rw [bls_rv h2 h3] at h1
  exact ⟨a, ns, rfl, h1, h5.now rp (by simp only [RV])⟩⟩
def maxL : List Int → Int → Int
  | [], m => m
  | x :: xs, m => maxL xs (max m x)
def minL : List Int → Int → Int
  | [], m => m
  | x :: xs, m => minL xs (min m x)
theorem maxL_le : ∀ (xs : List Int) (m : Int), m ≤ maxL xs m ∧ ∀ y ∈ xs, y ≤ maxL xs m
  | [], m => ⟨Int.le_refl _, fun _ h => by cases h⟩
  | x :: xs, m => by
    obtain ⟨h1, h2⟩ := maxL_le xs (max m x)
    refine ⟨Int.le_trans (Int.le_max_left m x) h1, fun y hy => ?_⟩
    rcases List.mem_cons.mp hy with rfl | hy
    · exact Int.le_trans (Int.le_max_right m y) h1
    · exact h2 y hy
theorem maxL_mem : ∀ (xs : List Int) (m : Int), maxL xs m = m ∨ maxL xs m ∈ xs
  | [], m => .inl rfl
  | x :: xs, m => by
    rcases maxL_mem xs (max m x) with h | h
    · show maxL xs (max m x) = m ∨ maxL xs (max m x) ∈ x :: xs
      rw [h]
      by_cases q : m ≤ x
      · rw [Int.max_eq_right q]; exact .inr List.mem_cons_self
      · rw [Int.max_eq_left (by omega)]; exact .inl rfl
    · exact .inr (List.mem_cons_of_mem _ h)
theorem minL_le : ∀ (xs : List Int) (m : Int), minL xs m ≤ m ∧ ∀ y ∈ xs, minL xs m ≤ y
  | [], m => ⟨Int.le_refl _, fun _ h => by cases h⟩
  | x :: xs, m => by
    obtain ⟨h1, h2⟩ := minL_le xs (min m x)
    refine ⟨Int.le_trans h1 (Int.min_le_left m x), fun y hy => ?_⟩
    rcases List.mem_cons.mp hy with rfl | hy
    · exact Int.le_trans h1 (Int.min_le_right m y)
    · exact h2 y hy
theorem minL_mem : ∀ (xs : List Int) (m : Int), minL xs m = m ∨ minL xs m ∈ xs
  | [], m => .inl rfl
  | x :: xs, m => by
    rcases minL_mem xs (min m x) with h | h
    · show minL xs (min m x) = m ∨ minL xs (min m x) ∈ x :: xs
      rw [h]
      by_cases q : m ≤ x
      · rw [Int.min_eq_left q]; exact .inl rfl
      · rw [Int.min_eq_right (by omega)]; exact .inr List.mem_cons_self
    · exact .inr (List.mem_cons_of_mem _ h)
def maxOp (ds : List D) (s : S) : R D := match ds with
  | [.int i, .int j] => .ok (.int (if j > i then j else i)) s
  | ds => fold1 asI (fun ns => match ns with
    | [] => none
    | n :: ns => some (.int (maxL ns n))) ds s
def minOp (ds : List D) (s : S) : R D := match ds with
  | [.int i, .int j] => .ok (.int (if j < i then j else i)) s
  | ds => fold1 asI (fun ns => match ns with
    | [] => none
    | n :: ns => some (.int (minL ns n))) ds s
theorem mc_max (hc : X.calm = true) : MCl X (.builtin "max") maxOp := ⟨_, (call_max2 hc).or (cr_max hc), fun G H io s ds vs Q E rp rv h => by
  unfold maxOp at h
  split at h
  · obtain ⟨v, w, rfl, r1, r2⟩ := rv2 rv
    simp only [RV] at r1 r2
    subst r1 r2
    exact .inl ⟨_, _, rfl, h.now rp (by simp only [RV])⟩
  · obtain ⟨a, xs, ws, ns, d, rfl, h1, h2, h3, h4, h5⟩ := fold1_po (K := X.K) rp rv h
    cases ns with
    | nil => cases h4
    | cons n ns =>
      cases h4
      rw [ints_rv h2 h3] at h1
      refine .inr ⟨a, n :: ns, rfl, h1, Nat.succ_pos _, fun m hm hle => ?_⟩
      have e : m = maxL ns n := by
        obtain ⟨q1, q2⟩ := maxL_le ns n
        have q3 : maxL ns n ≤ m := by
          rcases maxL_mem ns n with q | q
          · rw [q]; exact hle n List.mem_cons_self
          · exact hle _ (List.mem_cons_of_mem _ q)
        have q4 : m ≤ maxL ns n := by
          rcases List.mem_cons.mp hm with rfl | hm
          · exact q1
          · exact q2 m hm
        omega
      rw [e]
      exact h5.now rp (by simp only [RV])⟩
theorem mc_min (hc : X.calm = true) : MCl X (.builtin "min") minOp := ⟨_, (call_min2 hc).or (cr_min hc), fun G H io s ds vs Q E rp rv h => by
  unfold minOp at h
  split at h
  · obtain ⟨v, w, rfl, r1, r2⟩ := rv2 rv
    simp only [RV] at r1 r2
    subst r1 r2
    exact .inl ⟨_, _, rfl, h.now rp (by simp only [RV])⟩
  · obtain ⟨a, xs, ws, ns, d, rfl, h1, h2, h3, h4, h5⟩ := fold1_po (K := X.K) rp rv h
    cases ns with
    | nil => cases h4
    | cons n ns =>
      cases h4
      rw [ints_rv h2 h3] at h1
      refine .inr ⟨a, n :: ns, rfl, h1, Nat.succ_pos _, fun m hm hle => ?_⟩
      have e : m = minL ns n := by
        obtain ⟨q1, q2⟩ := minL_le ns n
        have q3 : m ≤ minL ns n := by
          rcases minL_mem ns n with q | q
          · rw [q]; exact hle n List.mem_cons_self
          · exact hle _ (List.mem_cons_of_mem _ q)
        have q4 : minL ns n ≤ m := by
          rcases List.mem_cons.mp hm with rfl | hm
          · exact q1
          · exact q2 m hm
        omega
      rw [e]
      exact h5.now rp (by simp only [RV])⟩
end Mi

set_option Elab.async false
set_option linter.all false
set_option maxRecDepth 100000
/-! isinstance, sorted, subscripts, slices, methods of lists, stores. -/
namespace Mi
open PySem PySem.Spec PyProof.Rows L2
variable {X : Cx} {W : WX}
/-! ### isinstance -/
inductive Ty1 where
  | b (n : String) | o (c : Str)
def tyD (d : D) (s : S) : Option Ty1 := match d with
  | .non => some (.b "NoneType")
  | .bl _ => some (.b "bool")
  | .int _ => some (.b "int")
  | .str _ => some (.b "str")
  | .tup _ => some (.b "tuple")
  | .lst _ => some (.b "list")
  | .scr _ => some (.b "list")
  | .dct _ _ => some (.b "dict")
  | .ins c _ _ => some (.o c)
  | .ref i => match s[i]? with
    | some (.lst _) => some (.b "list")
    | some (.dct _ _) => some (.b "dict")
    | some (.ins c _ _) => some (.o c)
    | none => none
  | _ => none
/-- what isinstance asks of an own class -/
structure OwnTy (K : PySem.W.Frag) (C : Addr) : Prop where
  cl : Cls K C
  ha : PySem.W.findIn K (.ref C) "__class__" = some (some (.builtin "object.__class__"))
  hn : PySem.W.specialIn K (.builtin "object.__class__") "__get__" = some (some (.builtin "getset_descriptor.__get__"))
  htk : PySem.W.takesIn K (.builtin "object.__class__") = some true
  hm : PySem.W.mroIn K C (.type "object") = some true
def TyVal (mg : MG) : Ty1 → Value → Prop
  | .b n, v => v = .type n
  | .o c, v => ∃ C, mg c = some (.ref C) ∧ v = .ref C
structure SubOk (K : PySem.W.Frag) (mg : MG) (sub : Ty1 → D → Option Bool) : Prop where
  own : ∀ c d b C, sub (.o c) d = some b → mg c = some (.ref C) → OwnTy K C
  ok : ∀ t d b, sub t d = some b → ∃ c u, (∀ G io v, RV mg G io d v → v = c) ∧ ClsV c u ∧ ∀ tv, TyVal mg t tv → PySem.W.kitOne K tv u = some b
theorem ty_x {K : PySem.W.Frag} {mg : MG} {G H : Hp} {io : List Addr} {s : S} {d : D} {v : V} {t : Ty1} (rp : Rp mg G H io s) (rv : RV mg G io d v) (h : tyD d s = some t) (own : ∀ c C, t = .o c → mg c = some (.ref C) → OwnTy K C) : ∃ tv, TyVal mg t tv ∧ TyX K H v tv := by
  have ins : ∀ {a C dx : Addr} {fs : List (Str × V)} {c : Str}, t = .o c → mg c = some (.ref C) → H a = some (.ins C dx fs) → ∃ tv, TyVal mg t tv ∧ TyX K H (.ref a) tv := fun {a C dx fs c} e hc hH => by
    subst e
    have o := own c C rfl hc
    exact ⟨.ref C, ⟨C, hc, rfl⟩, .base (.ins hH o.cl o.ha o.hn o.htk o.hm)⟩
  cases d <;> first | (cases h; done) | skip
  · cases h; simp only [RV] at rv; subst rv; exact ⟨_, rfl, .base .non⟩
  · cases h; simp only [RV] at rv; subst rv; exact ⟨_, rfl, .base (.bl _)⟩
  · cases h; simp only [RV] at rv; subst rv; exact ⟨_, rfl, .base (.int _)⟩
  · cases h; simp only [RV] at rv; subst rv; exact ⟨_, rfl, .base (.str _)⟩
  · cases h; simp only [RV] at rv; obtain ⟨a, vs, rfl, hG, _⟩ := rv; exact ⟨_, rfl, .base (.tup (rp.gh _ _ hG))⟩
  · cases h; simp only [RV] at rv; obtain ⟨a, vs, rfl, hG, _⟩ := rv; exact ⟨_, rfl, .base (.lst (rp.gh _ _ hG))⟩
  · cases h
    simp only [RV] at rv
    obtain ⟨a, vs, rfl, hG, _⟩ := rv
    rcases hG with ⟨kvs, hG, _⟩ | ⟨kvs, hG, _⟩
    · exact ⟨_, rfl, .base (.dK (rp.gh _ _ hG))⟩
    · exact ⟨_, rfl, .base (.dT (rp.gh _ _ hG))⟩
  · cases h
    simp only [RV] at rv
    obtain ⟨a, C, dx, vs, rfl, hc, hG, _⟩ := rv
    exact ins rfl hc (rp.gh _ _ hG)
  · rename_i i
    simp only [RV] at rv
    obtain ⟨a, rfl, hi⟩ := rv
    unfold tyD at h
    dsimp only at h
    split at h
    · rename_i hs
      cases h
      obtain ⟨_, vs, h1, _⟩ := rp.cell i a _ hi hs
      exact ⟨_, rfl, .base (.lst h1)⟩
    · rename_i hs
      cases h
      obtain ⟨_, vs, h1, _⟩ := rp.cell i a _ hi hs
      rcases h1 with ⟨kvs, hG, _⟩ | ⟨kvs, hG, _⟩
      · exact ⟨_, rfl, .base (.dK hG)⟩
      · exact ⟨_, rfl, .base (.dT hG)⟩
    · rename_i hs
      cases h
      obtain ⟨_, C, dx, vs, hc, h1, _⟩ := rp.cell i a _ hi hs
      exact ins rfl hc h1
    · cases h
  · cases h; simp only [RV] at rv; obtain ⟨a, o, vs, rfl, hG, _⟩ := rv; exact ⟨_, rfl, .base (.frz (rp.gh _ _ hG))⟩
def anySub (sub : Ty1 → D → Option Bool) (t : Ty1) : List D → Option Bool
  | [] => some false
  | c :: cs => match sub t c with
    | some true => (anySub sub t cs).map fun _ => true
    | some false => anySub sub t cs
    | none => none
def isiOp (sub : Ty1 → D → Option Bool) (ds : List D) (s : S) : R D := match ds with
  | [x, .tup cs] => match tyD x s with
    | some t => match anySub sub t cs with
      | some b => .ok (.bl b) s
      | none => .bad
    | none => .bad
  | [x, c] => match tyD x s with
    | some t => match sub t c with
      | some b => .ok (.bl b) s
      | none => .bad
    | none => .bad
  | _ => .bad
theorem anySub_kit {K : PySem.W.Frag} {mg : MG} {G : Hp} {io : List Addr} {sub : Ty1 → D → Option Bool} (F : SubOk K mg sub) {t : Ty1} : ∀ {cs : List D} {ws : List V} {b : Bool}, RVs mg G io cs ws → anySub sub t cs = some b →
    ∃ us, Paired ClsV ws us ∧ ∀ tv, TyVal mg t tv → PySem.W.kitAny K tv us = some b
  | [], ws, b, r, h => by
    cases h
    rw [r.nil_inv]
    exact ⟨[], .nil, fun _ _ => rfl⟩
  | c :: cs, ws, b, r, h => by
    obtain ⟨v, vr, rfl, r1, rr⟩ := r.cons_inv
    unfold anySub at h
    split at h
    · rename_i hs
      obtain ⟨b', h2, rfl⟩ := Option.map_eq_some_iff.mp h
      obtain ⟨us, p, q⟩ := anySub_kit F rr h2
      obtain ⟨c', u, e, k, kt⟩ := F.ok _ _ _ hs
      rw [e _ _ _ r1]
      exact ⟨u :: us, .cons k p, fun tv htv => kitAny_cons (kt tv htv) (fun z => by cases z) fun _ => rfl⟩
    · rename_i hs
      obtain ⟨us, p, q⟩ := anySub_kit F rr h
      obtain ⟨c', u, e, k, kt⟩ := F.ok _ _ _ hs
      rw [e _ _ _ r1]
      exact ⟨u :: us, .cons k p, fun tv htv => kitAny_cons (kt tv htv) (fun _ => q tv htv) fun z => by cases z⟩
    · cases h
theorem anySub_own {sub : Ty1 → D → Option Bool} {t : Ty1} {cs : List D} {b : Bool} (h : anySub sub t cs = some b) (hne : cs ≠ []) : ∃ d k, sub t d = some k := by
  cases cs with
  | nil => exact absurd rfl hne
  | cons c cs =>
    unfold anySub at h
    split at h
    · rename_i hs; exact ⟨_, _, hs⟩
    · rename_i hs; exact ⟨_, _, hs⟩
    · cases h
theorem mc_isi {sub : Ty1 → D → Option Bool} (F : SubOk X.K X.mg sub) (hne : ∀ t : Ty1, anySub sub t [] = some false → True := by intro _ _; trivial) : MCl X (.builtin "isinstance") (fun ds s => match ds with
    | [_, .tup []] => .bad
    | _ => isiOp sub ds s) := by
  refine ⟨_, call_isi.or call_isiT, fun G H io s ds vs Q E rp rv h => ?_⟩
  split at h
  · exact h.elim
  · rename_i hnil
    unfold isiOp at h
    split at h
    · rename_i x cs
      obtain ⟨v, w, rfl, r1, r2⟩ := rv2 rv
      split at h
      · rename_i t ht
        split at h
        · rename_i b hb
          obtain ⟨d, k, hd⟩ := anySub_own hb (fun e => hnil x (by rw [e]))
          obtain ⟨tv, h1, h2⟩ := ty_x (K := X.K) rp r1 ht (fun c C e hc => F.own c d k C (e ▸ hd) hc)
          simp only [RV] at r2
          obtain ⟨a, ws, rfl, hG, rw'⟩ := r2
          obtain ⟨us, p, q⟩ := anySub_kit F rw' hb
          exact .inr ⟨v, a, ws, tv, us, b, rfl, rp.gh _ _ hG, p, h2, q tv h1, h.now rp (by simp only [RV])⟩
        · exact h.elim
      · exact h.elim
    · obtain ⟨v, w, rfl, r1, r2⟩ := rv2 rv
      split at h
      · rename_i t ht
        split at h
        · rename_i b hb
          obtain ⟨tv, h1, h2⟩ := ty_x (K := X.K) rp r1 ht (fun c C e hc => F.own c _ b C (e ▸ hb) hc)
          obtain ⟨c', u, e, k, kt⟩ := F.ok _ _ _ hb
          have ew := e _ _ _ r2
          subst ew
          exact .inl ⟨v, w, tv, u, b, rfl, k, h2, kt tv h1, h.now rp (by simp only [RV])⟩
        · exact h.elim
      · exact h.elim
    · exact h.elim
/-- the built-in classes -/
def tyNames : List String := ["NoneType", "bool", "int", "str", "tuple", "list", "dict"]
def clNames : List String := ["bool", "int", "str", "tuple", "list"]
def subB : Ty1 → D → Option Bool
  | .b a, .ty n => if (tyNames.contains a && clNames.contains n) = true then some (a == n || (a == "bool" && n == "int")) else none
  | _, _ => none
theorem kit_names : (tyNames.all fun a => clNames.all fun n => kitB a n == some (a == n || (a == "bool" && n == "int"))) = true := by decide +kernel
theorem subB_ok {K : PySem.W.Frag} {mg : MG} : SubOk K mg subB := by
  refine ⟨fun c d b C h _ => (by unfold subB at h; cases h), fun t d b h => ?_⟩
  unfold subB at h
  split at h
  · rename_i a n
    split at h
    · rename_i hk
      cases h
      rw [Bool.and_eq_true, List.contains_iff_mem, List.contains_iff_mem] at hk
      have q := List.all_eq_true.mp (List.all_eq_true.mp kit_names a hk.1) n hk.2
      refine ⟨.ty n, .type n, fun G io v r => by simpa only [RV] using r, .ty n, fun tv e => ?_⟩
      have e' : tv = .type a := e
      subst e'
      exact kit_ty (eq_of_beq q)
    · cases h
  · cases h
/-! ### sorted -/
def lePy {α : Type} (p q : α × PyData) : Bool := !PySem.W.dataLt q.2 p.2
def rSortP (K : PySem.W.Frag) : List V → Hp → VK → Prop := fun vs H Q => ∃ (a : Addr) (ws : List V) (ds : List PyData), vs = [V.ref a] ∧ SqL K H a ws ∧ DpAll K H ws ds ∧ PySem.W.AllAlike ds ∧ PySem.W.Sortable ds ∧ (∀ d ∈ ds, d.depth ≤ 60) ∧
  ∀ p, H p = none → Q (.ref p) (upd H p (.lst (((ws.zip ds).mergeSort lePy).map (·.1))))
theorem dpAll_len {K : PySem.W.Frag} {H : Hp} : ∀ {ws : List V} {ds : List PyData}, DpAll K H ws ds → ws.length = ds.length
  | _, _, .nil => rfl
  | _, _, .cons _ t => by rw [List.length_cons, List.length_cons, dpAll_len t]
theorem each_rel : ∀ {ws : List V} {us : List Value} {ds : List PyData}, Vals ws us → ws.length = ds.length → PySem.W.EachIs (fun u (b : V × PyData) => RelV b.1 u) us (ws.zip ds)
  | _, _, ds, .nil, _ => .nil
  | _, _, [], .cons _ _, h => by cases h
  | _, _, d :: ds, .cons r t, h => .cons r (each_rel t (by simpa using h))
theorem each_reads {h : Heap} : ∀ {ws : List V} {us : List Value} {ds : List PyData} {as : List Addr}, ReadsAll h us ds as → ws.length = ds.length → PySem.W.EachIs (fun u (b : V × PyData) => ∃ as, Reads h u b.2 as) us (ws.zip ds)
  | [], _, ds, _, r, hl => by
    have e : ds = [] := List.length_eq_zero_iff.mp hl.symm
    subst e
    cases r
    exact .nil
  | w :: ws, _, [], _, r, hl => by cases hl
  | w :: ws, _, d :: ds, _, r, hl => by
    cases r with
    | cons h1 h2 => exact .cons ⟨_, h1⟩ (each_reads h2 (by simpa using hl))
theorem each_vals : ∀ {us : List Value} {bs : List (V × PyData)}, PySem.W.EachIs (fun u (b : V × PyData) => RelV b.1 u) us bs → Vals (bs.map (·.1)) us
  | _, _, .nil => .nil
  | _, _, .cons r t => .cons r (each_vals t)
theorem zip_snd {ws : List V} {ds : List PyData} (h : ws.length = ds.length) : (ws.zip ds).map (fun b => b.2) = ds := List.map_snd_zip (by omega)
theorem lePy_data {α : Type} : (lePy : α × PyData → α × PyData → Bool) = PySem.W.dataLe false (fun b => b.2) := by
  rw [PySem.W.dataLe_eq]
  rfl
theorem cr_sortP (hu : X.A.units + 64 < cLine) : CallR X (.builtin "sorted") (rSortP X.K) := by
  intro pins s σ H xs us Q I r h
  obtain ⟨a, ws, ds, rfl, hs, hd, hal, hk, hdp, q⟩ := h
  rw [Vals.ref1 r]
  obtain ⟨its, rv, pl, hz⟩ := I.list hs
  have hl := dpAll_len hd
  obtain ⟨as, rd⟩ := Dp.readsAll I ds ws its hd rv
  have es := zip_snd hl
  refine PySem.W.sorted_data (bs := ws.zip ds) (enc := fun b => b.2) (R := fun u b => RelV b.1 u) pl.isList (each_rel rv hl) (each_reads rd hl) (by rw [es]; exact hal) (by rw [es]; exact hk) (by rw [List.length_zip]; omega) (fun b hb => ?_) fun out ho he => ?_
  · have := hdp b.2 (by rw [← es]; exact List.mem_map_of_mem hb)
    omega
  · rw [← lePy_data] at he
    obtain ⟨c, hc⟩ := sortedAll_at s.heap its out.toArray
    have hfree : H (s.heap.objs.size + 1) = none := I.hok.fresh (Nat.le_succ _)
    have hv := each_vals he
    have hlen : (((ws.zip ds).mergeSort lePy).map (·.1)).length ≤ sizeLine := by
      rw [List.length_map, List.length_mergeSort, List.length_zip]
      omega
    exact ⟨.ref (s.heap.objs.size + 1), _, I.laid (o := .lst (((ws.zip ds).mergeSort lePy).map (·.1))) (t' := s.toks) (fun b u e => sortedAll_old e) (Nat.le_succ _) ⟨hlen, out, c, hv, hc⟩, rfl, q _ hfree⟩
def sortOk (ds : List PyData) : Bool := (ds.all fun a => ds.all fun b => PySem.W.alike a b) && (ds.all fun d => decide (d.depth ≤ 60)) && ((ds.all fun d => match d with | .tuple (_ :: _) => true | _ => false) || (ds.all fun d => match d with | .none => false | .tuple _ => false | _ => true))
theorem sortOk_is {ds : List PyData} (h : sortOk ds = true) : PySem.W.AllAlike ds ∧ PySem.W.Sortable ds ∧ ∀ d ∈ ds, d.depth ≤ 60 := by
  unfold sortOk at h
  rw [Bool.and_eq_true, Bool.and_eq_true, Bool.or_eq_true] at h
  obtain ⟨⟨h1, h2⟩, h3⟩ := h
  refine ⟨fun d hd d' hd' => List.all_eq_true.mp (List.all_eq_true.mp h1 d hd) d' hd', ?_, fun d hd => of_decide_eq_true (List.all_eq_true.mp h2 d hd)⟩
  rcases h3 with h3 | h3
  · refine .inl fun d hd => ?_
    have := List.all_eq_true.mp h3 d hd
    split at this
    · exact ⟨_, _, rfl⟩
    · cases this
  · refine .inr fun d hd => ?_
    have := List.all_eq_true.mp h3 d hd
    split at this
    · cases this
    · cases this
    · rename_i h4 h5
      exact ⟨h4, h5⟩
def sortOp (mk : List D → S → R D) (ds : List D) (s : S) : R D := match ds with
  | [d] => match (match d with | .tup _ => none | d => asQ d s) with
    | some xs => match xs.mapM (pyD s) with
      | some ps => if sortOk ps = true then mk (((xs.zip ps).mergeSort lePy).map (·.1)) s else .bad
      | none => .bad
    | none => .bad
  | _ => .bad
theorem sort_rvs {mg : MG} {G : Hp} {io : List Addr} {xs : List D} {ws : List V} {ds : List PyData} (r : RVs mg G io xs ws) (hl : xs.length = ds.length) : RVs mg G io (((xs.zip ds).mergeSort lePy).map (·.1)) (((ws.zip ds).mergeSort lePy).map (·.1)) := by
  have z : ∀ {xs : List D} {ws : List V} {ds : List PyData}, RVs mg G io xs ws → xs.length = ds.length → ∃ t : List (D × V × PyData), t.map (fun q => (q.1, q.2.2)) = xs.zip ds ∧ t.map (fun q => (q.2.1, q.2.2)) = ws.zip ds ∧ ∀ q ∈ t, RV mg G io q.1 q.2.1 := by
    intro xs
    induction xs with
    | nil => intro ws ds r hl; rw [r.nil_inv]; exact ⟨[], rfl, rfl, fun _ h => by cases h⟩
    | cons x xs ih =>
      intro ws ds r hl
      obtain ⟨v, vr, rfl, r1, rr⟩ := r.cons_inv
      cases ds with
      | nil => cases hl
      | cons d ds =>
        obtain ⟨t, h1, h2, h3⟩ := ih rr (by simpa using hl)
        refine ⟨(x, v, d) :: t, by rw [List.map_cons, h1]; rfl, by rw [List.map_cons, h2]; rfl, fun q hq => ?_⟩
        rcases List.mem_cons.mp hq with rfl | hq
        · exact r1
        · exact h3 q hq
  obtain ⟨t, h1, h2, h3⟩ := z r hl
  let le3 : D × V × PyData → D × V × PyData → Bool := fun a b => !PySem.W.dataLt b.2.2 a.2.2
  have e1 : (xs.zip ds).mergeSort lePy = (t.mergeSort le3).map (fun q => (q.1, q.2.2)) := by
    rw [← h1]
    exact (List.map_mergeSort (r := le3) (s := lePy) (f := fun q => (q.1, q.2.2)) (fun _ _ _ _ => rfl)).symm
  have e2 : (ws.zip ds).mergeSort lePy = (t.mergeSort le3).map (fun q => (q.2.1, q.2.2)) := by
    rw [← h2]
    exact (List.map_mergeSort (r := le3) (s := lePy) (f := fun q => (q.2.1, q.2.2)) (fun _ _ _ _ => rfl)).symm
  rw [e1, e2, List.map_map, List.map_map]
  have h4 : ∀ q ∈ t.mergeSort le3, RV mg G io q.1 q.2.1 := fun q hq => h3 q ((List.mergeSort_perm t le3).mem_iff.mp hq)
  clear e1 e2
  generalize t.mergeSort le3 = l at h4
  induction l with
  | nil => exact RVs.nil
  | cons q l ih => exact RVs.cons (h4 q List.mem_cons_self) (ih fun x hx => h4 x (List.mem_cons_of_mem _ hx))
theorem mapM_len {α β : Type} {f : α → Option β} : ∀ {xs : List α} {ys : List β}, xs.mapM f = some ys → xs.length = ys.length
  | [], ys, h => by simp at h; subst h; rfl
  | x :: xs, ys, h => by
    rw [List.mapM_cons] at h
    cases c : f x with
    | none => rw [c] at h; cases h
    | some y =>
      cases c2 : xs.mapM f with
      | none => rw [c, c2] at h; cases h
      | some zs =>
        rw [c, c2] at h
        cases h
        rw [List.length_cons, List.length_cons, mapM_len c2]
theorem mc_sorted {mk : List D → S → R D} (hk : Mk mk) (hu : X.A.units + 64 < cLine) : MCl X (.builtin "sorted") (sortOp mk) := ⟨_, cr_sortP hu, fun G H io s ds vs Q E rp rv h => by
  unfold sortOp at h
  split at h
  · rename_i d
    split at h
    · rename_i xs hx
      split at h
      · rename_i ps hps
        split at h
        · rename_i hok
          obtain ⟨v, rfl, r1⟩ := rv1 rv
          have hx' : asQ d s = some xs ∧ ∀ zs, d ≠ .tup zs := by
            split at hx
            · cases hx
            · rename_i hn
              exact ⟨hx, hn⟩
          obtain ⟨a, ws, rfl, h1, h2⟩ := asQ_rv2 (K := X.K) rp r1 hx'.1
          obtain ⟨k1, k2, k3⟩ := sortOk_is hok
          rcases h1 with ⟨h1, _⟩ | ⟨_, e⟩
          · exact ⟨a, ws, ps, rfl, h1, dp_all (fun x v d => py_dp rp 40 x v d) xs ws ps h2 hps, k1, k2, k3, (hk.h _ _ _ _ _ _ _ _ _ rp (sort_rvs h2 (mapM_len hps)) h).2⟩
          · exact absurd e (hx'.2 _)
        · exact h.elim
      · exact h.elim
    · exact h.elim
  · exact h.elim⟩
end Mi

set_option Elab.async false
set_option linter.all false
set_option maxRecDepth 100000
/-! Subscripts, slices, methods of lists, stores, raise. -/
namespace Mi
open PySem PySem.Spec PyProof.Rows L2
variable {X : Cx} {W : WX}
theorem atI_rv {mg : MG} {G : Hp} {io : List Addr} {xs : List D} {ws : List V} {i : Int} {d : D} (r : RVs mg G io xs ws) (h : atI xs i = some d) : ∃ v, atI ws i = some v ∧ RV mg G io d v := by
  unfold atI at h ⊢
  rw [r.len]
  cases c : ixN xs.length i with
  | none => rw [c] at h; cases h
  | some j =>
    rw [c] at h
    exact r.get h
def ixOp (x y : D) (s : S) : R D := match y with
  | .int i => match x with
    | .str z => if z.length ≤ sizeLine then match atI z.cps.toList i with
      | some c => .ok (.str ⟨#[c]⟩) s
      | none => .bad else .bad
    | x => match asQ x s with
      | some xs => match atI xs i with
        | some d => .ok d s
        | none => .bad
      | none => .bad
  | _ => .bad
theorem ix_po {mg : MG} {K : PySem.W.Frag} {G H : Hp} {io : List Addr} {s : S} {x y : D} {u v : V} {Q : VK} {E : XK} (rp : Rp mg G H io s) (rx : RV mg G io x u) (ry : RV mg G io y v) (h : PoV mg G H io (ixOp x y s) Q E) : rIx K u v H Q := by
  unfold ixOp at h
  split at h
  · rename_i i
    simp only [RV] at ry
    split at h
    · rename_i z
      simp only [RV] at rx
      split at h
      · rename_i hl
        split at h
        · rename_i c hc
          exact .inr (.inr ⟨z, i, c, rx, ry, hl, hc, h.now rp (by simp only [RV])⟩)
        · exact h.elim
      · exact h.elim
    · split at h
      · rename_i xs hx
        split at h
        · rename_i d hd
          obtain ⟨a, ws, rfl, h1, h2⟩ := asQ_rv (K := K) rp rx hx
          obtain ⟨w, h3, h4⟩ := atI_rv h2 hd
          rcases h1 with h1 | h1
          · exact .inl ⟨a, ws, i, w, rfl, ry, h1, h3, h.now rp h4⟩
          · exact .inr (.inl ⟨a, ws, i, w, rfl, ry, h1, h3, h.now rp h4⟩)
        · exact h.elim
      · exact h.elim
  · exact h.elim
theorem me_ix {a b : Expr} {ma mb : Fr → S → R D} {pos : Pos} (ha : ME X W a ma) (hb : ME X W b mb) (hs : PlainIx b := by exact fun _ _ => rfl) : ME X W (.Subscript a b pos) (mOp ixOp ma mb) := by
  obtain ⟨t, p, q⟩ := ha.h
  obtain ⟨u, p', q'⟩ := hb.h
  refine ⟨_, pe_ix ix_seq p p' hs, fun G H io env σ s Q re rp h => q G H io env σ s _ re rp (Po.bind h fun x s1 G1 H1 io1 v e1 rp1 rv h => ?_)⟩
  refine q' G1 H1 io1 env σ s1 _ (re.ext e1) rp1 (Po.bind h fun y s2 G2 H2 io2 w e2 rp2 rw' h => ?_)
  exact ix_po rp2 (rv.ext e2) rw' h
/-! ### slices -/
structure MPt (X : Cx) (W : WX) (e : Option Expr) (m : Fr → S → R (Option Int)) : Prop where
  h : ∃ t, PO X e t ∧ ∀ (G H : Hp) (io : List Addr) (env : Fr) (σ : L2.St) (s : S) (Q : Option Int → Hp → Prop), RE X.mg G io env σ → Rp X.mg G H io s → Po (fun _ _ (a b : Option Int) => a = b) X.mg G H io (m env s) Q (WAt W σ) → t σ H Q
def noPart : Fr → S → R (Option Int) := fun _ s => .ok none s
def aPart (m : Fr → S → R D) : Fr → S → R (Option Int) := fun env s => (m env s).bind fun d s1 => match d with
  | .int i => .ok (some i) s1
  | _ => .bad
theorem mp_none : MPt X W none noPart := ⟨_, po_none, fun G H io env σ s Q re rp h => h.now rp rfl⟩
theorem mp_some {e : Expr} {m : Fr → S → R D} (he : ME X W e m) : MPt X W (some e) (aPart m) := by
  obtain ⟨t, p, q⟩ := he.h
  refine ⟨_, po_some p, fun G H io env σ s Q re rp h => q G H io env σ s _ re rp (Po.bind h fun d s1 G1 H1 io1 v e1 rp1 rv h => ?_)⟩
  cases d <;> first | exact h.elim | skip
  simp only [RV] at rv
  exact ⟨_, rv, h.now rp1 rfl⟩
def cutD (xs : List D) (lo hi : Option Int) : List D := (xs.drop (HT.sIx xs.length 0 lo)).take (HT.sIx xs.length xs.length hi - HT.sIx xs.length 0 lo)
theorem cut_rv {mg : MG} {G : Hp} {io : List Addr} {xs : List D} {ws : List V} (r : RVs mg G io xs ws) (lo hi : Option Int) : RVs mg G io (cutD xs lo hi) (cutV ws lo hi) := by
  unfold cutD cutV
  rw [r.len]
  exact (r.drop _).take _
def slOp (mk : List D → S → R D) (x : D) (lo hi : Option Int) (s : S) : R D := match x with
  | .tup xs => mkT (cutD xs lo hi) s
  | x => match asQ x s with
    | some xs => mk (cutD xs lo hi) s
    | none => .bad
def mSl (mk : List D → S → R D) (m : Fr → S → R D) (lo hi : Fr → S → R (Option Int)) : Fr → S → R D := fun env s => (m env s).bind fun x s1 => (lo env s1).bind fun l s2 => (hi env s2).bind fun h s3 => slOp mk x l h s3
theorem me_slice {mk : List D → S → R D} (hk : Mk mk) {e : Expr} {lo hi : Option Expr} {m : Fr → S → R D} {ml mh : Fr → S → R (Option Int)} {pos p2 : Pos} (he : ME X W e m) (hl : MPt X W lo ml) (hh : MPt X W hi mh) : ME X W (.Subscript e (.Slice lo hi none p2) pos) (mSl mk m ml mh) := by
  obtain ⟨t, p, q⟩ := he.h
  obtain ⟨tl, pl, ql⟩ := hl.h
  obtain ⟨th, ph, qh⟩ := hh.h
  refine ⟨_, pe_slice (sl_list.or sl_tupA) p pl ph, fun G H io env σ s Q re rp h => q G H io env σ s _ re rp (Po.bind h fun x s1 G1 H1 io1 v e1 rp1 rv h1 => ?_)⟩
  refine ql G1 H1 io1 env σ s1 _ (re.ext e1) rp1 (Po.bind h1 fun l s2 G2 H2 io2 l' e2 rp2 rl h2 => ?_)
  subst rl
  refine qh G2 H2 io2 env σ s2 _ (re.ext (e1.trans e2)) rp2 (Po.bind h2 fun u s3 G3 H3 io3 u' e3 rp3 ru h => ?_)
  subst ru
  clear h1 h2
  have rv3 := rv.ext (e2.trans e3)
  unfold slOp at h
  split at h
  · rename_i xs
    simp only [RV] at rv3
    obtain ⟨a, ws, rfl, hG, r⟩ := rv3
    have hc := cut_rv r l u
    refine .inr ⟨a, ws, rfl, .of (rp3.gh _ _ hG), fun hw => ?_, fun _ => (mk_t rp3 hc h).2⟩
    have ec : cutD xs l u = xs := by
      unfold cutD
      rw [← r.len, hw.1, hw.2, List.drop_zero, Nat.sub_zero, r.len, List.take_length]
    rw [ec] at h
    unfold mkT at h
    split at h
    · exact h.now rp3 (by simp only [RV]; exact ⟨a, ws, rfl, hG, r⟩)
    · exact h.elim
  · rename_i hn
    split at h
    · rename_i xs hx
      obtain ⟨a, ws, rfl, h1, h2⟩ := asQ_rv2 (K := X.K) rp3 rv3 hx
      rcases h1 with ⟨h1, _⟩ | ⟨_, e⟩
      · exact .inl ⟨a, ws, rfl, h1, (hk.h _ _ _ _ _ _ _ _ _ rp3 (cut_rv h2 l u) h).2⟩
      · exact absurd e (hn _)
    · exact h.elim
/-! ### methods of lists -/
structure MMt (X : Cx) (id : String) (g : D → List D → S → R D) : Prop where
  h : ∃ r, MtR X id r ∧ ∀ (G H : Hp) (io : List Addr) (s : S) (x : D) (ds : List D) (v : V) (vs : List V) (Q : VK) (E : XK), Rp X.mg G H io s → RV X.mg G io x v → RVs X.mg G io ds vs → PoV X.mg G H io (g x ds s) Q E → r v vs H Q
/-- o.m(..) of a list -/
def mMethL (g : D → List D → S → R D) (o : Fr → S → R D) (ms : Fr → S → R (List D)) : Fr → S → R D := fun env s => (o env s).bind fun x s1 => match asL x s1 with
  | some _ => (ms env s1).bind fun ds s2 => g x ds s2
  | none => .bad
theorem tyV_list {mg : MG} {K : PySem.W.Frag} {G H : Hp} {io : List Addr} {s : S} {x : D} {v : V} {xs : List D} (rp : Rp mg G H io s) (rv : RV mg G io x v) (h : asL x s = some xs) : tyV K "list" v H := by
  obtain ⟨a, vs, rfl, h1, h2⟩ := asL_rv rp rv h
  exact .inl ⟨rfl, vs, .of h1⟩
section
variable {o e : Expr} {es : List Expr} {name : Str} {id : String} {apos cpos : Pos} {g : D → List D → S → R D} {mo : Fr → S → R D} {ms : Fr → S → R (List D)}
theorem me_bmL (pa : PlainAttrs "list") (slot : Slot "list" name id) (hty : typeOf (.builtin id) = pure (.type "method_descriptor")) (hm : MMt X id g) (ho : ME X W o mo) (ha : MA X W (e :: es) ms)
    (hbase : attributeBase o name X.env (eval o X.env) = eval o X.env := by rfl)
    (hfew : ((backTo cpos (starEach (e :: es) X.env)).all (fun x => !x.1) && (backToKw cpos (keywordEach [] X.env)).all (fun x => x.1.isSome) && decide ((e :: es).length + ([] : List Keyword).length + (if ([] : List Keyword).isEmpty then 0 else 1) < 30)) = true := by rfl)
    (hline : (apos.endLine == cpos.line) = true := by rfl) (hs : starEach (e :: es) X.env = (false, eval e X.env) :: starEach es X.env := by rfl) (hplain : (backTo cpos (starEach es X.env)).any (·.1) = false := by rfl) :
    ME X W (.Call (.Attribute o name apos) (e :: es) [] cpos) (mMethL g mo ms) := by
  obtain ⟨r, hm, hr⟩ := hm.h
  obtain ⟨t, p, q⟩ := ho.h
  obtain ⟨u, p', q'⟩ := ha.h
  refine ⟨_, pe_bm pa slot hty hm p p' hbase hfew hline hs hplain, fun G H io env σ s Q re rp h => q G H io env σ s _ re rp (Po.bind h fun x s1 G1 H1 io1 v e1 rp1 rv h => ?_)⟩
  split at h
  · rename_i xs hx
    refine ⟨tyV_list rp1 rv hx, q' G1 H1 io1 env σ s1 _ (re.ext e1) rp1 (Po.bind h fun ds s2 G2 H2 io2 vs e2 rp2 rvs h => ?_)⟩
    exact hr G2 H2 io2 s2 x ds v vs Q _ rp2 (rv.ext e2) rvs h
  · exact h.elim
theorem me_bmL0 (pa : PlainAttrs "list") (slot : Slot "list" name id) (hty : typeOf (.builtin id) = pure (.type "method_descriptor")) (hm : MMt X id g) (ho : ME X W o mo)
    (hbase : attributeBase o name X.env (eval o X.env) = eval o X.env := by rfl) (hline : (apos.endLine == cpos.line) = true := by rfl) : ME X W (.Call (.Attribute o name apos) [] [] cpos) (mMethL g mo mNil) := by
  obtain ⟨r, hm, hr⟩ := hm.h
  obtain ⟨t, p, q⟩ := ho.h
  refine ⟨_, pe_bm0 pa slot hty hm p hbase hline, fun G H io env σ s Q re rp h => q G H io env σ s _ re rp (Po.bind h fun x s1 G1 H1 io1 v e1 rp1 rv h => ?_)⟩
  split at h
  · rename_i xs hx
    exact ⟨tyV_list rp1 rv hx, hr G1 H1 io1 s1 x [] v [] Q _ rp1 rv RVs.nil h⟩
  · exact h.elim
end
/-- a list that may change -/
def asM (x : D) (s : S) : Option (Nat × List D) := match x with
  | .ref i => match s[i]? with
    | some (.lst xs) => some (i, xs)
    | _ => none
  | _ => none
theorem asM_rv {mg : MG} {G H : Hp} {io : List Addr} {s : S} {x : D} {v : V} {i : Nat} {xs : List D} (rp : Rp mg G H io s) (rv : RV mg G io x v) (h : asM x s = some (i, xs)) : ∃ a vs, v = .ref a ∧ io[i]? = some a ∧ H a = some (.lst vs) ∧ RVs mg G io xs vs := by
  cases x <;> first | (cases h; done) | skip
  rename_i j
  simp only [RV] at rv
  obtain ⟨a, rfl, hi⟩ := rv
  unfold asM at h
  dsimp only at h
  split at h
  · rename_i ys hs
    cases h
    obtain ⟨_, vs, h1, h2⟩ := rp.cell _ a _ hi hs
    exact ⟨a, vs, rfl, hi, h1, h2⟩
  · cases h
/-- the changed list, and what comes of it -/
theorem changed {mg : MG} {G H : Hp} {io : List Addr} {s : S} {i : Nat} {a : Addr} {ys : List D} {ws : List V} {d : D} {v : V} {Q : VK} {E : XK} (rp : Rp mg G H io s) (hi : io[i]? = some a) (r : RVs mg G io ys ws) (rd : RV mg G io d v)
    (h : PoV mg G H io (.ok d (s.set i (.lst ys))) Q E) : Q v (upd H a (.lst ws)) :=
  h _ _ _ _ (rp.writeE (List.mem_of_getElem? hi)) (rp.write hi ⟨ws, upd_same, r⟩) rd
def appOp (x : D) (ds : List D) (s : S) : R D := match asM x s, ds with
  | some (i, xs), [d] => if xs.length < sizeLine then .ok .non (s.set i (.lst (xs ++ [d]))) else .bad
  | _, _ => .bad
theorem mm_append : MMt X "list.append" appOp := ⟨_, mt_append, fun G H io s x ds v vs Q E rp rx rd h => by
  unfold appOp at h
  split at h
  · rename_i i xs d hx
    split at h
    · rename_i hl
      obtain ⟨a, ws, rfl, hi, hH, r⟩ := asM_rv rp rx hx
      obtain ⟨u, rfl, ru⟩ := rv1 rd
      exact ⟨a, ws, u, rfl, rfl, hH, by rw [r.len]; exact hl, changed rp hi (r.append (RVs.cons ru RVs.nil)) (by simp only [RV]) h⟩
    · exact h.elim
  · exact h.elim⟩
/-- pop(), pop(i) -/
def popOp (x : D) (ds : List D) (s : S) : R D := match asM x s, ds with
  | some (i, xs), [] => match xs[xs.length - 1]? with
    | some d => .ok d (s.set i (.lst xs.dropLast))
    | none => .bad
  | some (i, xs), [.int k] => if -(2 ^ 63) ≤ k ∧ k < 2 ^ 63 then match seqIndex? k xs.length with
      | some j => match xs[j]? with
        | some d => .ok d (s.set i (.lst (xs.eraseIdx j)))
        | none => .bad
      | none => .bad
    else .bad
  | _, _ => .bad
theorem RVs.dropLast {mg : MG} {G : Hp} {io : List Addr} {ds : List D} {vs : List V} (h : RVs mg G io ds vs) : RVs mg G io ds.dropLast vs.dropLast := by
  rw [List.dropLast_eq_take, List.dropLast_eq_take, h.len]
  exact h.take _
theorem RVs.erase {mg : MG} {G : Hp} {io : List Addr} {ds : List D} {vs : List V} (h : RVs mg G io ds vs) (k : Nat) : RVs mg G io (ds.eraseIdx k) (vs.eraseIdx k) := by
  rw [List.eraseIdx_eq_take_drop_succ, List.eraseIdx_eq_take_drop_succ]
  exact (h.take k).append (h.drop (k + 1))
theorem mm_pop : MMt X "list.pop" popOp := ⟨_, MtR.or mt_pop mt_popAt, fun G H io s x ds v vs Q E rp rx rd h => by
  unfold popOp at h
  split at h
  · rename_i i xs hx
    split at h
    · rename_i d hd
      obtain ⟨a, ws, rfl, hi, hH, r⟩ := asM_rv rp rx hx
      obtain ⟨u, h1, h2⟩ := r.get hd
      rw [rd.nil_inv]
      exact .inl ⟨a, ws, u, rfl, rfl, hH, by rw [r.len]; exact h1, changed rp hi r.dropLast h2 h⟩
    · exact h.elim
  · rename_i i xs k hx
    split at h
    · rename_i hk
      split at h
      · rename_i j hj
        split at h
        · rename_i d hd
          obtain ⟨a, ws, rfl, hi, hH, r⟩ := asM_rv rp rx hx
          obtain ⟨u, h1, h2⟩ := r.get hd
          obtain ⟨w, rfl, rw'⟩ := rv1 rd
          simp only [RV] at rw'
          subst rw'
          exact .inr ⟨a, ws, k, j, u, rfl, rfl, hH, hk.1, hk.2, by rw [r.len]; exact hj, h1, changed rp hi (r.erase j) h2 h⟩
        · exact h.elim
      · exact h.elim
    · exact h.elim
  · exact h.elim⟩
def insOp (x : D) (ds : List D) (s : S) : R D := match asM x s, ds with
  | some (i, xs), [.int k, d] => if xs.length < sizeLine ∧ 0 ≤ k ∧ k < 2 ^ 63 then .ok .non (s.set i (.lst (xs.take k.toNat ++ [d] ++ xs.drop k.toNat))) else .bad
  | _, _ => .bad
theorem mm_insert : MMt X "list.insert" insOp := ⟨_, mt_insert, fun G H io s x ds v vs Q E rp rx rd h => by
  unfold insOp at h
  split at h
  · rename_i i xs k d hx
    split at h
    · rename_i hl
      obtain ⟨a, ws, rfl, hi, hH, r⟩ := asM_rv rp rx hx
      obtain ⟨u, w, rfl, ru, rw'⟩ := rv2 rd
      simp only [RV] at ru
      subst ru
      exact ⟨a, ws, k, w, rfl, rfl, hH, by rw [r.len]; exact hl.1, hl.2.1, hl.2.2, changed rp hi (((r.take _).append (RVs.cons rw' RVs.nil)).append (r.drop _)) (by simp only [RV]) h⟩
    · exact h.elim
  · exact h.elim⟩
def revOp (x : D) (ds : List D) (s : S) : R D := match asM x s, ds with
  | some (i, xs), [] => .ok .non (s.set i (.lst xs.reverse))
  | _, _ => .bad
theorem mm_reverse : MMt X "list.reverse" revOp := ⟨_, mt_reverse, fun G H io s x ds v vs Q E rp rx rd h => by
  unfold revOp at h
  split at h
  · rename_i i xs hx
    obtain ⟨a, ws, rfl, hi, hH, r⟩ := asM_rv rp rx hx
    rw [rd.nil_inv]
    exact ⟨a, ws, rfl, rfl, hH, changed rp hi r.rev (by simp only [RV]) h⟩
  · exact h.elim⟩
def clrOp (x : D) (ds : List D) (s : S) : R D := match asM x s, ds with
  | some (i, _), [] => .ok .non (s.set i (.lst []))
  | _, _ => .bad
theorem mm_clear : MMt X "list.clear" clrOp := ⟨_, mt_clear, fun G H io s x ds v vs Q E rp rx rd h => by
  unfold clrOp at h
  split at h
  · rename_i i xs hx
    obtain ⟨a, ws, rfl, hi, hH, r⟩ := asM_rv rp rx hx
    rw [rd.nil_inv]
    exact ⟨a, ws, rfl, rfl, hH, changed rp hi RVs.nil (by simp only [RV]) h⟩
  · exact h.elim⟩
/-! ### l[i] = v -/
def setOp (x y d : D) (s : S) : R Unit := match asM x s, y with
  | some (i, xs), .int k => match ixN xs.length k with
    | some j => .ok () (s.set i (.lst (xs.set j d)))
    | none => .bad
  | _, _ => .bad
def mSetL (o i e : Fr → S → R D) : Fr → S → T := fun env s => (e env s).go env fun d s1 => (o env s1).go env fun x s2 => (i env s2).go env fun y s3 => (setOp x y d s3).go env fun _ s4 => .nx env s4
theorem ms_setL {o i e : Expr} {mo mi me : Fr → S → R D} {pos p2 : Pos} (ho : ME X W o mo) (hi : ME X W i mi) (he : ME X W e me)
    (ha : ∀ v, assign (.Subscript o i p2) X.env v = (do
      let ov ← holding [v] (eval o X.env)
      let iv ← holding [v, ov] (eval i X.env)
      standAt p2
      holding [v, ov, iv] (setItem ov iv v)
      release [v, ov, iv] []) := by intro _; rfl)
    (hs : swapsWithSole [.Subscript o i p2] e pos.line X.env = pure false := by rfl) (hw : swappedStores [.Subscript o i p2] e X.env = pure none := by rfl)
    (h1 : (assignEach [.Subscript o i p2] X.env).map (·.2) = [assign (.Subscript o i p2) X.env] := by rfl) : MS X W (.Assign [.Subscript o i p2] e pos) (mSetL mo mi me) := by
  obtain ⟨to, po, qo⟩ := ho.h
  obtain ⟨ti, pi, qi⟩ := hi.h
  obtain ⟨te, pe, qe⟩ := he.h
  refine ⟨_, ps_asg pe (pg_sub po pi set_list ha) hs hw h1, fun G H io env σ s D re rp h => qe G H io env σ s _ re rp (PoT.go re h fun d s1 G1 H1 io1 v e1 rp1 rv h => ?_)⟩
  refine qo G1 H1 io1 env σ s1 _ (re.ext e1) rp1 (PoT.go (re.ext e1) h fun x s2 G2 H2 io2 u e2 rp2 ru h => ?_)
  refine qi G2 H2 io2 env σ s2 _ (re.ext (e1.trans e2)) rp2 (PoT.go (re.ext (e1.trans e2)) h fun y s3 G3 H3 io3 w e3 rp3 rw' h => ?_)
  unfold setOp at h
  split at h
  · rename_i j xs k hx
    split at h
    · rename_i n hn
      obtain ⟨a, ws, rfl, hj, hH, r⟩ := asM_rv rp3 (ru.ext e3) hx
      simp only [RV] at rw'
      subst rw'
      refine ⟨a, ws, k, n, rfl, rfl, hH, by rw [r.len]; exact hn, ?_⟩
      exact h _ _ _ _ (rp3.writeE (o := .lst (ws.set n v)) (List.mem_of_getElem? hj)) (rp3.write hj ⟨ws.set n v, upd_same, r.set (rv.ext (e2.trans e3)) n⟩) (((re.ext e1).ext (e2.trans e3)).ext (rp3.writeE (o := .lst (ws.set n v)) (List.mem_of_getElem? hj)))
    · exact h.elim
  · exact h.elim
/-! ### raise -/
/-- an own error class without an __init__ of its own -/
structure OwnEx (X : Cx) (c : Str) (C : Addr) : Prop where
  g : X.mg c = some (.ref C)
  q : PySem.W.excIn X.K C [.type "ValueError", .type "Exception", .type "BaseException", .type "object"] "ValueError.__new__" = true
  k : PySem.W.keepIn X.K (.ref C) = true
  r : Raises X (.ref C)
def mRaise (c : Str) : Fr → S → T := fun env s => .ex ⟨c, [], []⟩ env s
theorem ms_raise {c m : Str} {C : Addr} {j : Nat} {p p2 p3 pos : Pos} (hc : X.calm = true) (tk : Takes X W) (O : OwnEx X c C) (hg : Gl X c) (hdb : (c == ("__debug__" : Str)) = false := by decide) :
    MS X W (.Raise (some (.Call (.Name c p) [.Constant (.str m) j p2] [] p3)) none pos) (mRaise c) :=
  ⟨_, ps_raise hc tk (pmk_own PySem.F.excBase_ValueError O.q O.g O.k O.r hg hdb), fun G H io env σ s D re rp h =>
    h G H io σ (.ref C) none Ext.refl rp re ⟨⟨C, O.g, rfl⟩, .inl ⟨rfl, rfl, rfl⟩⟩⟩
end Mi

set_option Elab.async false
set_option linter.all false
set_option maxRecDepth 100000
/-! What a def has made and hands back is still: the store is as long as ahead of the call. -/
namespace Mi
open PySem PySem.Spec PyProof.Rows L2
mutual
def D.bel (n : Nat) : D → Bool
  | .tup xs => D.bels n xs
  | .lst xs => D.bels n xs
  | .scr xs => D.bels n xs
  | .set xs => D.bels n xs
  | .dct _ vs => D.bels n vs
  | .ins _ _ vs => D.bels n vs
  | .ref i => decide (i < n)
  | .non => true
  | .bl _ => true
  | .int _ => true
  | .str _ => true
  | .ty _ => true
  | .glo _ => true
def D.bels (n : Nat) : List D → Bool
  | [] => true
  | d :: ds => D.bel n d && D.bels n ds
end
def Cell.bel (n : Nat) : Cell → Bool
  | .lst xs => D.bels n xs
  | .dct _ vs => D.bels n vs
  | .ins _ _ vs => D.bels n vs
theorem belows_cons {n : Nat} {d : D} {ds : List D} (h : D.bels n (d :: ds) = true) : D.bel n d = true ∧ D.bels n ds = true := by
  simpa [D.bels] using h
theorem belows_all {n : Nat} : ∀ {ds : List D}, (∀ d ∈ ds, D.bel n d = true) → D.bels n ds = true
  | [], _ => by simp [D.bels]
  | d :: ds, h => by
    simp only [D.bels, Bool.and_eq_true]
    exact ⟨h d List.mem_cons_self, belows_all fun x hx => h x (List.mem_cons_of_mem _ hx)⟩
section
variable {mg : MG} {G G' H H' : Hp} {io io' : List Addr} {s s' : S}
mutual
theorem RV.bel : ∀ (d : D) (v : V), RV mg G io d v → D.bel io.length d = true
  | .non, _, _ => by simp [D.bel]
  | .bl _, _, _ => by simp [D.bel]
  | .int _, _, _ => by simp [D.bel]
  | .str _, _, _ => by simp [D.bel]
  | .ty _, _, _ => by simp [D.bel]
  | .glo _, _, _ => by simp [D.bel]
  | .tup ds, _, h => by
    simp only [RV] at h
    obtain ⟨a, vs, _, _, h2⟩ := h
    simp only [D.bel]
    exact RVs.bel ds vs h2
  | .lst ds, _, h => by
    simp only [RV] at h
    obtain ⟨a, vs, _, _, h2⟩ := h
    simp only [D.bel]
    exact RVs.bel ds vs h2
  | .dct ks ds, _, h => by
    simp only [RV] at h
    obtain ⟨a, vs, _, _, h2⟩ := h
    simp only [D.bel]
    exact RVs.bel ds vs h2
  | .set _, _, h => by simp only [RV] at h
  | .ins _ _ ds, _, h => by
    simp only [RV] at h
    obtain ⟨a, C, dx, vs, _, _, _, _, h2⟩ := h
    simp only [D.bel]
    exact RVs.bel ds vs h2
  | .ref i, _, h => by
    simp only [RV] at h
    obtain ⟨a, _, h⟩ := h
    simp only [D.bel, decide_eq_true_eq]
    exact (List.getElem?_eq_some_iff.mp h).1
  | .scr ds, _, h => by
    simp only [RV] at h
    obtain ⟨a, o, vs, _, _, h2⟩ := h
    simp only [D.bel]
    exact RVs.bel ds vs h2
theorem RVs.bel : ∀ (ds : List D) (vs : List V), RVs mg G io ds vs → D.bels io.length ds = true
  | [], _, _ => by simp [D.bels]
  | d :: ds, _, h => by
    obtain ⟨v, r, _, h1, h2⟩ := h.cons_inv
    simp only [D.bels, Bool.and_eq_true]
    exact ⟨RV.bel d v h1, RVs.bel ds r h2⟩
end
theorem RC.bel {a : Addr} : ∀ {c : Cell}, RC mg G io H a c → c.bel io.length = true
  | .lst ds, h => by obtain ⟨vs, _, h2⟩ := h; exact h2.bel
  | .dct ks ds, h => by obtain ⟨vs, _, h2⟩ := h; exact h2.bel
  | .ins c ns ds, h => by obtain ⟨C, dx, vs, _, _, _, h2⟩ := h; exact h2.bel
mutual
/-- what hangs on the first n cells alone stays, whatever becomes of the others -/
theorem RV.cut {n : Nat} (g : ∀ a o, G a = some o → G' a = some o) (p : ∀ i a, i < n → io[i]? = some a → io'[i]? = some a) : ∀ (d : D) (v : V), D.bel n d = true → RV mg G io d v → RV mg G' io' d v
  | .non, _, _, h => by simpa only [RV] using h
  | .bl _, _, _, h => by simpa only [RV] using h
  | .int _, _, _, h => by simpa only [RV] using h
  | .str _, _, _, h => by simpa only [RV] using h
  | .ty _, _, _, h => by simpa only [RV] using h
  | .glo _, _, _, h => by simpa only [RV] using h
  | .tup ds, v, hb, h => by
    simp only [RV] at h ⊢
    simp only [D.bel] at hb
    obtain ⟨a, vs, e, h1, h2⟩ := h
    exact ⟨a, vs, e, g _ _ h1, RVs.cut g p ds vs hb h2⟩
  | .lst ds, v, hb, h => by
    simp only [RV] at h ⊢
    simp only [D.bel] at hb
    obtain ⟨a, vs, e, h1, h2⟩ := h
    exact ⟨a, vs, e, g _ _ h1, RVs.cut g p ds vs hb h2⟩
  | .dct ks ds, v, hb, h => by
    simp only [RV] at h ⊢
    simp only [D.bel] at hb
    obtain ⟨a, vs, e, h1, h2⟩ := h
    exact ⟨a, vs, e, h1.mono g, RVs.cut g p ds vs hb h2⟩
  | .set _, _, _, h => by simp only [RV] at h
  | .ins c ns ds, v, hb, h => by
    simp only [RV] at h ⊢
    simp only [D.bel] at hb
    obtain ⟨a, C, dx, vs, e, h0, h1, h2, h3⟩ := h
    exact ⟨a, C, dx, vs, e, h0, g _ _ h1, h2, RVs.cut g p ds vs hb h3⟩
  | .ref i, v, hb, h => by
    simp only [RV] at h ⊢
    simp only [D.bel, decide_eq_true_eq] at hb
    obtain ⟨a, e, h⟩ := h
    exact ⟨a, e, p i a hb h⟩
  | .scr ds, v, hb, h => by
    simp only [RV] at h ⊢
    simp only [D.bel] at hb
    obtain ⟨a, o, vs, e, h1, h2⟩ := h
    exact ⟨a, o, vs, e, g _ _ h1, RVs.cut g p ds vs hb h2⟩
theorem RVs.cut {n : Nat} (g : ∀ a o, G a = some o → G' a = some o) (p : ∀ i a, i < n → io[i]? = some a → io'[i]? = some a) : ∀ (ds : List D) (vs : List V), D.bels n ds = true → RVs mg G io ds vs → RVs mg G' io' ds vs
  | [], _, _, h => by simpa only [RVs] using h
  | d :: ds, vs, hb, h => by
    obtain ⟨h1, h2⟩ := belows_cons hb
    simp only [RVs] at h ⊢
    obtain ⟨v, r, e, q1, q2⟩ := h
    exact ⟨v, r, e, RV.cut g p d v h1 q1, RVs.cut g p ds r h2 q2⟩
end
theorem RC.cut {n : Nat} (g : ∀ a o, G a = some o → G' a = some o) (p : ∀ i a, i < n → io[i]? = some a → io'[i]? = some a) {a : Addr} : ∀ {c : Cell}, c.bel n = true → RC mg G io H a c → RC mg G' io' H a c
  | .lst ds, hb, h => by obtain ⟨vs, h1, h2⟩ := h; exact ⟨vs, h1, h2.cut g p _ _ hb⟩
  | .dct ks ds, hb, h => by obtain ⟨vs, h1, h2⟩ := h; exact ⟨vs, h1, h2.cut g p _ _ hb⟩
  | .ins c ns ds, hb, h => by obtain ⟨C, dx, vs, h0, h1, h2, h3⟩ := h; exact ⟨C, dx, vs, h0, h1, h2, h3.cut g p _ _ hb⟩
end
/-- a value with its new cells written out -/
def res (n : Nat) (s : S) : Nat → D → Option D
  | 0, d => if D.bel n d = true then some d else none
  | f + 1, d => if D.bel n d = true then some d else match d with
    | .tup xs => (xs.mapM (res n s f)).map .tup
    | .lst xs => (xs.mapM (res n s f)).map .lst
    | .dct ks vs => (vs.mapM (res n s f)).map (.dct ks)
    | .ins c ns vs => (vs.mapM (res n s f)).map (.ins c ns)
    | .ref i => match s[i]? with
      | some (.lst xs) => (xs.mapM (res n s f)).map .lst
      | some (.dct ks vs) => (vs.mapM (res n s f)).map (.dct ks)
      | some (.ins c ns vs) => (vs.mapM (res n s f)).map (.ins c ns)
      | none => none
    | _ => none
/-- the first cells are as they were, or hang on the first ones alone -/
def lowOk (n : Nat) : S → S → Bool
  | [], _ => true
  | c :: r, c' :: r' => (decide (c' = c) || c'.bel n) && lowOk n r r'
  | _ :: _, [] => false
def sealR (s : S) (r : R D) : R D := match r with
  | .ok d s' => if lowOk s.length s s' = true then match res s.length s' 60 d with
      | some d' => .ok d' (s'.take s.length)
      | none => .bad
    else .bad
  | .ex x s' => if (lowOk s.length s s' && D.bels s.length x.vs) = true then .ex x (s'.take s.length) else .bad
  | .bad => .bad
def mSeal (m : List D → S → R D) : List D → S → R D := fun ds s => sealR s (m ds s)
theorem lowOk_get {n : Nat} : ∀ {s s' : S} {i : Nat} {c : Cell}, lowOk n s s' = true → s'[i]? = some c → i < s.length → s[i]? = some c ∨ c.bel n = true
  | [], _, _, _, _, _, h => by simp at h
  | c :: r, [], _, _, h, _, _ => by cases h
  | c :: r, c' :: r', 0, d, h, e, _ => by
    simp only [lowOk, Bool.and_eq_true, Bool.or_eq_true, decide_eq_true_eq] at h
    simp at e
    subst e
    rcases h.1 with h | h
    · exact .inl (by rw [h]; rfl)
    · exact .inr h
  | c :: r, c' :: r', i + 1, d, h, e, hl => by
    simp only [lowOk, Bool.and_eq_true] at h
    have := lowOk_get (i := i) (c := d) h.2 (by simpa using e) (by simpa using hl)
    simpa using this
section
variable {mg : MG} {G H G' H' : Hp} {io io' : List Addr} {s s' : S}
/-- the heap of still things, with the cells from the n-th on -/
def still (G H : Hp) (io : List Addr) (n : Nat) : Hp := fun a => match G a with
  | some o => some o
  | none => if a ∈ io.drop n then H a else none
theorem still_g {n : Nat} : ∀ a o, G a = some o → still G H io n a = some o := fun a o h => by unfold still; rw [h]
theorem still_new {n : Nat} {a : Addr} (h : G a = none) (m : a ∈ io.drop n) : still G H io n a = H a := by
  unfold still
  rw [h]
  exact if_pos m
theorem still_old {n : Nat} {a : Addr} (h : G a = none) (m : a ∉ io.drop n) : still G H io n a = none := by
  unfold still
  rw [h]
  exact if_neg m
theorem take_ix {n : Nat} : ∀ i a, i < n → io[i]? = some a → (io.take n)[i]? = some a := fun i a hi h => by rw [List.getElem?_take_of_lt hi]; exact h
theorem mapM_rvs {n : Nat} {f : D → Option D} (hf : ∀ d v d', RV mg G io d v → f d = some d' → RV mg (still G H io n) (io.take n) d' v) : ∀ {ds : List D} {vs : List V} {ds' : List D}, RVs mg G io ds vs → ds.mapM f = some ds' → RVs mg (still G H io n) (io.take n) ds' vs
  | [], vs, ds', r, h => by
    simp at h
    subst h
    rw [r.nil_inv]
    exact RVs.nil
  | d :: ds, vs, ds', r, h => by
    obtain ⟨v, vr, rfl, r1, rr⟩ := r.cons_inv
    rw [List.mapM_cons] at h
    cases c : f d with
    | none => rw [c] at h; cases h
    | some e =>
      cases c2 : ds.mapM f with
      | none => rw [c, c2] at h; cases h
      | some es =>
        rw [c, c2] at h
        cases h
        exact RVs.cons (hf d v e r1 c) (mapM_rvs hf rr c2)
theorem res_rv {n : Nat} (rp : Rp mg G H io s) : ∀ (f : Nat) (d : D) (v : V) (d' : D), RV mg G io d v → res n s f d = some d' → RV mg (still G H io n) (io.take n) d' v := by
  have base : ∀ (d : D) (v : V), D.bel n d = true → RV mg G io d v → RV mg (still G H io n) (io.take n) d v := fun d v hb h => RV.cut still_g take_ix d v hb h
  intro f
  induction f with
  | zero =>
    intro d v d' r h
    unfold res at h
    split at h
    · rename_i hb
      cases h
      exact base d v hb r
    · cases h
  | succ f ih =>
    intro d v d' r h
    unfold res at h
    split at h
    · rename_i hb
      cases h
      exact base d v hb r
    · rename_i hb
      split at h
      · obtain ⟨ds', h1, rfl⟩ := Option.map_eq_some_iff.mp h
        simp only [RV] at r ⊢
        obtain ⟨a, vs, e, hG, rs⟩ := r
        exact ⟨a, vs, e, still_g _ _ hG, mapM_rvs ih rs h1⟩
      · obtain ⟨ds', h1, rfl⟩ := Option.map_eq_some_iff.mp h
        simp only [RV] at r ⊢
        obtain ⟨a, vs, e, hG, rs⟩ := r
        exact ⟨a, vs, e, still_g _ _ hG, mapM_rvs ih rs h1⟩
      · obtain ⟨ds', h1, rfl⟩ := Option.map_eq_some_iff.mp h
        simp only [RV] at r ⊢
        obtain ⟨a, vs, e, hG, rs⟩ := r
        exact ⟨a, vs, e, hG.mono still_g, mapM_rvs ih rs h1⟩
      · obtain ⟨ds', h1, rfl⟩ := Option.map_eq_some_iff.mp h
        simp only [RV] at r ⊢
        obtain ⟨a, C, dx, vs, e, hc, hG, hl, rs⟩ := r
        exact ⟨a, C, dx, vs, e, hc, still_g _ _ hG, hl, mapM_rvs ih rs h1⟩
      · rename_i i
        simp only [RV] at r
        obtain ⟨a, e, hi⟩ := r
        have hn : ¬ i < n := fun hl => hb (by simp only [D.bel, decide_eq_true_eq]; exact hl)
        have hm : a ∈ io.drop n := by
          have : (io.drop n)[i - n]? = some a := by
            rw [List.getElem?_drop]
            rw [show n + (i - n) = i by omega]
            exact hi
          exact List.mem_of_getElem? this
        split at h
        · rename_i xs hs
          obtain ⟨ds', h1, rfl⟩ := Option.map_eq_some_iff.mp h
          obtain ⟨hG, vs, hH, rs⟩ := rp.cell i a _ hi hs
          simp only [RV]
          exact ⟨a, vs, e, by rw [still_new hG hm]; exact hH, mapM_rvs ih rs h1⟩
        · rename_i ks xs hs
          obtain ⟨ds', h1, rfl⟩ := Option.map_eq_some_iff.mp h
          obtain ⟨hG, vs, hH, rs⟩ := rp.cell i a _ hi hs
          simp only [RV]
          exact ⟨a, vs, e, by rw [still_new hG hm]; exact hH, mapM_rvs ih rs h1⟩
        · rename_i c ns xs hs
          obtain ⟨ds', h1, rfl⟩ := Option.map_eq_some_iff.mp h
          obtain ⟨hG, C, dx, vs, hc, hH, hl, rs⟩ := rp.cell i a _ hi hs
          simp only [RV]
          exact ⟨a, C, dx, vs, e, hc, by rw [still_new hG hm]; exact hH, hl, mapM_rvs ih rs h1⟩
        · cases h
      · cases h
theorem seal_ext (e : Ext G H io G' H' io') (rp : Rp mg G' H' io' s') : Ext G H io (still G' H' io' io.length) H' io ∧ io'.take io.length = io := by
  obtain ⟨t, rfl⟩ := e.p
  refine ⟨⟨fun a o h => still_g _ _ (e.g a o h), ⟨[], by simp⟩, e.fr, fun a h n => absurd h n, fun a o h n => ?_, e.dm⟩, by simp⟩
  cases q : G' a with
  | some u => exact e.gn a u q n
  | none =>
    by_cases m : a ∈ (io ++ t).drop io.length
    · have m' : a ∈ t := by simpa using m
      refine e.nw a (List.mem_append_right _ m') fun hi => ?_
      exact (List.nodup_append.mp rp.nd).2.2 a hi a m' rfl
    · rw [still_old q m] at h
      cases h
theorem seal_rp (rp0 : Rp mg G H io s) (e : Ext G H io G' H' io') (rp : Rp mg G' H' io' s') (lo : lowOk s.length s s' = true) : Rp mg (still G' H' io' io.length) H' io (s'.take s.length) := by
  have hl := rp0.len
  have hle : io.length ≤ io'.length := by
    obtain ⟨t, rfl⟩ := e.p
    simp
  obtain ⟨_, ht⟩ := seal_ext e rp
  refine ⟨fun a o h => ?_, ?_, rp0.nd, fun i a c hi hc => ?_⟩
  · cases q : G' a with
    | some u =>
      rw [still_g a u q] at h
      cases h
      exact rp.gh a _ q
    | none =>
      by_cases m : a ∈ io'.drop io.length
      · rw [still_new q m] at h
        exact h
      · rw [still_old q m] at h
        cases h
  · rw [List.length_take, ← rp.len]
    omega
  · have hin : i < io.length := (List.getElem?_eq_some_iff.mp hi).1
    have hi' : io'[i]? = some a := idx_mono e.p hi
    have hc' : s'[i]? = some c := by
      rw [List.getElem?_take_of_lt (by omega)] at hc
      exact hc
    obtain ⟨hG, hR⟩ := rp.cell i a c hi' hc'
    have nm : a ∉ io'.drop io.length := fun m => by
      have hm : a ∈ io := List.mem_of_getElem? hi
      have hnd := rp.nd
      obtain ⟨t, rfl⟩ := e.p
      have m' : a ∈ t := by simpa using m
      exact (List.nodup_append.mp hnd).2.2 a hm a m' rfl
    refine ⟨still_old hG nm, ?_⟩
    have hb : c.bel io.length = true := by
      rcases lowOk_get lo hc' (by omega) with q | q
      · exact (rp0.cell i a c hi q).2.bel
      · rw [hl]
        exact q
    refine hR.cut still_g (fun j b hj hb' => ?_) hb
    rw [← ht]
    exact take_ix j b hj hb'
theorem seal_po {r : R D} {Q : VK} {E : XK} (rp0 : Rp mg G H io s) (h : PoV mg G H io (sealR s r) Q E) : PoV mg G H io r Q E := by
  cases r with
  | ok d s' =>
    intro G' H' io' v e rp rv
    unfold sealR at h
    dsimp only at h
    split at h
    · rename_i lo
      split at h
      · rename_i d' hd
        obtain ⟨e2, ht⟩ := seal_ext e rp
        have := res_rv rp 60 d v d' rv hd
        rw [← rp0.len, ht] at this
        exact h _ _ _ v e2 (seal_rp rp0 e rp lo) this
      · exact h.elim
    · exact h.elim
  | ex x s' =>
    intro G' H' io' C dx e rp rx
    unfold sealR at h
    dsimp only at h
    split at h
    · rename_i lo
      rw [Bool.and_eq_true] at lo
      obtain ⟨e2, ht⟩ := seal_ext e rp
      refine h _ _ _ C dx e2 (seal_rp rp0 e rp lo.1) ⟨rx.1, ?_⟩
      rcases rx.2 with q | ⟨d, vs, h1, h2, h3, h4⟩
      · exact .inl q
      · refine .inr ⟨d, vs, h1, h2, h3, h4.cut (n := io.length) still_g (fun j b hj hb => ?_) x.vs vs (by rw [rp0.len]; exact lo.2)⟩
        rw [← ht]
        exact take_ix j b hj hb
    · exact h.elim
  | bad => exact h
end
theorem Fn.sealed {P : Program} {w : World} {K : PySem.W.Frag} {mg : MG} {base : Heap} {k : Nat} {x : Str} {n : Nat} {m : List D → S → R D} (F : Fn P w K mg base k x n m) : Fn P w K mg base k x n (mSeal m) :=
  F.imp fun G H io s ds Q E _ rp po => seal_po rp po
end Mi

set_option Elab.async false
set_option linter.all false
set_option maxRecDepth 100000
/-! Calls of own defs in every shape; a def's rule by its datum; the head's hook; the law's start. -/
namespace Mi
open PySem PySem.Spec PyProof.Rows L2
variable {X : Cx} {W : WX}
/-- the i-th things of a list -/
def pick {α : Type} (ixs : List Nat) (l : List α) : List α := ixs.filterMap fun i => l[i]?
theorem vals_pick {vs : List V} {us : List Value} (r : Vals vs us) : ∀ ixs : List Nat, Vals (pick ixs vs) (pick ixs us)
  | [] => .nil
  | i :: ixs => by
    have ih := vals_pick r ixs
    unfold pick at ih ⊢
    rw [List.filterMap_cons, List.filterMap_cons]
    cases c : vs[i]? with
    | none =>
      have : us[i]? = none := by rw [List.getElem?_eq_none_iff] at c ⊢; rw [← r.length]; exact c
      rw [this]
      exact ih
    | some v =>
      obtain ⟨u, hu, rv⟩ := r.get c
      rw [hu]
      exact .cons rv ih
theorem rvs_pick {mg : MG} {G : Hp} {io : List Addr} {ds : List D} {vs : List V} (r : RVs mg G io ds vs) : ∀ ixs : List Nat, RVs mg G io (pick ixs ds) (pick ixs vs)
  | [] => RVs.nil
  | i :: ixs => by
    have ih := rvs_pick r ixs
    unfold pick at ih ⊢
    rw [List.filterMap_cons, List.filterMap_cons]
    cases c : ds[i]? with
    | none =>
      have : vs[i]? = none := by rw [List.getElem?_eq_none_iff] at c ⊢; rw [r.len]; exact c
      rw [this]
      exact ih
    | some v =>
      obtain ⟨u, hu, rv⟩ := r.get c
      rw [hu]
      exact RVs.cons rv ih
theorem pick_len {α : Type} {l : List α} : ∀ {ixs : List Nat}, (∀ i ∈ ixs, i < l.length) → (pick ixs l).length = ixs.length
  | [], _ => rfl
  | i :: ixs, h => by
    have ih := pick_len (l := l) (ixs := ixs) fun j hj => h j (List.mem_cons_of_mem _ hj)
    unfold pick at ih ⊢
    rw [List.filterMap_cons, List.getElem?_eq_getElem (h i List.mem_cons_self)]
    show (_ :: _).length = _
    rw [List.length_cons, ih, List.length_cons]
/-- x, called with n values and keywords ks, does m -/
structure Fk (P : Program) (w : World) (K : PySem.W.Frag) (mg : MG) (base : Heap) (k : Nat) (x : Str) (n : Nat) (ks : List Str) (m : List D → S → R D) : Prop where
  h : ∃ (f : Addr) (fd : FuncData) (ps : List Str) (sp : Sp) (g : List Value → List Value → List Value) (gV : List V → List V → List V), FnOk P w K mg base (L2.CX P w) k f fd ps sp ∧ mg x = some (.ref f) ∧ PySem.W.keepIn K (.ref f) = true ∧
    KBn K fd ps n ks g gV ∧ ∀ (vs zs : List V) (H : Hp) (Q : VK) (E : XK), vs.length = n → zs.length = ks.length → SpM mg (n + ks.length) m (vs ++ zs) H Q E → sp (gV vs zs) H Q E
section
variable {P : Program} {w : World} {K : PySem.W.Frag} {mg : MG} {base : Heap} {j k n : Nat} {x : Str} {ks : List Str} {m m' : List D → S → R D}
theorem Fk.mono (F : Fk P w K mg base j x n ks m) (h : j ≤ k) : Fk P w K mg base k x n ks m := by
  obtain ⟨f, fd, ps, sp, g, gV, a, b⟩ := F.h
  exact ⟨f, fd, ps, sp, g, gV, a.mono h, b⟩
theorem kb_none {fd : FuncData} {ps : List Str} {ixs : List Nat}
    (h : ∀ us ws : List Value, us.length = n → ws.length = ks.length → bindArgs fd ⟨us, ks.zip ws⟩ = pure (ps.zip (pick ixs (us ++ ws)))) : KBn K fd ps n ks (fun us ws => pick ixs (us ++ ws)) (fun vs zs => pick ixs (vs ++ zs)) :=
  ⟨fun s us ws _ l1 l2 => .of_eq (h us ws l1 l2), fun r1 r2 => vals_pick (r1.append r2) ixs⟩
/-- no defaults -/
theorem Fk.plain {qual : Str} {params : Arguments} {body : List Stmt} {scope : Scope} {f : Addr} {fd : FuncData} {ps : List Str} (F : FunD K x qual params body scope [] [] f fd) (ixs : List Nat) (O : FnOk P w K mg base (L2.CX P w) k f fd ps (SpM mg ixs.length m)) {y : Str} (hm : mg y = some (.ref f))
    (h : ∀ (kV doc pm : Value) (an : Option Addr) (cdv ct : Value) (us ws : List Value), us.length = n → ws.length = ks.length → bindArgs (PySem.W.fnOf x qual params body scope .none kV doc pm an cdv ct) ⟨us, ks.zip ws⟩ = pure (ps.zip (pick ixs (us ++ ws))))
    (hi : ∀ i ∈ ixs, i < n + ks.length) : Fk P w K mg base k y n ks fun l s => m (pick ixs l) s := by
  refine ⟨f, fd, ps, _, _, _, O, hm, F.kp, kb_none (K := K) (ixs := ixs) (ps := ps) (fd := fd) (n := n) (ks := ks) ?_, fun vs zs H Q E l1 l2 ⟨G, io, s, ds, hl, rp, rv, po⟩ => ?_⟩
  · obtain ⟨oc, od, dV, kV, doc, pm, an, cdv, ct, osl, rfl, lk, hcd, hD, hK⟩ := F.ex
    rcases hD with ⟨_, rfl⟩ | ⟨e, _⟩
    · exact h kV doc pm an cdv ct
    · exact absurd rfl e
  · exact ⟨G, io, s, pick ixs ds, pick_len fun i hi' => by rw [List.length_append, l1, l2]; exact hi i hi', rp, rvs_pick rv ixs, po⟩
/-- defaults dds behind the values and keywords -/
theorem Fk.dflt {qual : Str} {params : Arguments} {body : List Stmt} {scope : Scope} {f : Addr} {fd : FuncData} {ps : List Str} {dvs : List V} (F : FunD K x qual params body scope dvs [] f fd) (ixs : List Nat) (dds : List D) (hd : dvs ≠ []) (hdd : ∀ (G : Hp) (io : List Addr), RVs mg G io dds dvs) (O : FnOk P w K mg base (L2.CX P w) k f fd ps (SpM mg ixs.length m)) {y : Str} (hm : mg y = some (.ref f))
    (h : ∀ (T : Addr) (kV doc pm : Value) (an : Option Addr) (cdv ct : Value) (us its ws : List Value), us.length = n → its.length = dvs.length → ws.length = ks.length →
      ∃ k, bindArgs (PySem.W.fnOf x qual params body scope (.ref T) kV doc pm an cdv ct) ⟨us, ks.zip ws⟩ = seqItems? (.ref T) >>= k ∧ k (some its.toArray) = pure (ps.zip (pick ixs (us ++ ws ++ its))))
    (hi : ∀ i ∈ ixs, i < n + ks.length + dds.length) : Fk P w K mg base k y n ks fun l s => m (pick ixs (l ++ dds)) s := by
  obtain ⟨its, hb⟩ := F.kbindsD n ks (fun us its ws => pick ixs (us ++ ws ++ its)) hd (fun r1 r2 r3 => vals_pick ((r1.append r3).append r2) ixs) h
  refine ⟨f, fd, ps, _, _, _, O, hm, F.kp, hb, fun vs zs H Q E l1 l2 ⟨G, io, s, ds, hl, rp, rv, po⟩ => ?_⟩
  refine ⟨G, io, s, pick ixs (ds ++ dds), pick_len fun i hi' => ?_, rp, rvs_pick (rv.append (hdd G io)) ixs, po⟩
  have := hi i hi'
  rw [List.length_append, List.length_append, l1, l2, (hdd G io).len]
  exact this
end
/-! ### the calls -/
section
variable {CX : CXT} {k n : Nat} {f : Addr} {fd : FuncData} {ps ks : List Str} {sp : Sp} {E : L2.St → XK} {x : Str} {p pos : Pos} {e : Expr} {es : List Expr} {kws : List Keyword} {t tk : TA} {g : List Value → List Value → List Value} {gV : List V → List V → List V}
theorem run_own {pins : List (Addr × Obj)} {σ : L2.St} {H : Hp} {s : Shared} {Q : VK} {us ws : List Value} {vs zs : List V} (F : FnOk X.prog X.w X.K X.mg X.base CX k f fd ps sp) (hr : Room k X.A) (hb : KBn X.K fd ps n ks g gV) (hx : PassesAt CX X σ (E σ))
    (I : Inv X pins σ H s) (r : Vals vs us) (rz : Vals zs ws) (l1 : vs.length = n) (l2 : zs.length = ks.length) (h : sp (gV vs zs) H Q (E σ)) : wpAny (model X.prog X.w) X.A (call (.ref f) us (ks.zip ws)) (EP X pins σ Q) X.xe s := by
  have r2 := hb.rel r rz
  refine wpAny_call (codeAny_mono (F.run X.A X.stack s H ⟨us, ks.zip ws⟩ (g us ws) (gV vs zs) Q (E σ) hr I.env0 (hb.to s us ws I.kIn (r.length.symm.trans l1) (rz.length.symm.trans l2)) r2 h) fun r s' hq => ?_)
  cases r with
  | error e => exact hx pins H s e s' I hq
  | ok fl => cases fl with
    | ret u => exact I.after hq
    | next => exact False.elim hq
    | brk => exact False.elim hq
    | cont => exact False.elim hq
/-- values and keywords into a def -/
def tOwn (n m : Nat) (sp : Sp) (gV : List V → List V → List V) (E : L2.St → XK) (t tk : TA) : TE := fun σ H Q => t σ H fun vs H1 => tk σ H1 fun zs H2 => vs.length = n ∧ zs.length = m ∧ sp (gV vs zs) H2 Q (E σ)
theorem pe_own (F : FnOk X.prog X.w X.K X.mg X.base CX k f fd ps sp) (hr : Room k X.A) (hg : Gl X x) (hm : X.mg x = some (.ref f)) (hk : PySem.W.keepIn X.K (.ref f) = true) (hb : KBn X.K fd ps n ks g gV) (hx : ∀ σ, PassesAt CX X σ (E σ))
    (ha : PA X (e :: es) t) (hkw : PK X kws tk) (hall : (backToKw pos (keywordEach kws X.env)).all (·.1.isSome) = true := by rfl) (hks : (backToKw pos (keywordEach kws X.env)).filterMap (·.1) = ks := by rfl)
    (hdb : (x == ("__debug__" : Str)) = false := by decide) (he : starEach (e :: es) X.env = (false, eval e X.env) :: starEach es X.env := by rfl)
    (hpl : ((backTo pos (starEach (e :: es) X.env)).any (·.1) || (backToKw pos (keywordEach kws X.env)).any (·.1.isNone)) = false := by rfl) :
    PE X (.Call (.Name x p) (e :: es) kws pos) (tOwn n ks.length sp gV E t tk) := by
  refine ⟨fun pins s σ H Q I h => ?_⟩
  refine wpAny_Call_Name_kw (ld_glob I hg hm ?_ hdb)
  refine PySem.W.callWith_KW (h₀ := X.base) I.ok.mod.kin hk hall (thn (ha.run pos pins s σ H _ I h) fun us s1 ⟨vs, H1, I1, r, q⟩ => ?_) hpl he
  refine thn (hkw.run pos pins s1 σ H1 _ I1 q) fun ws s2 ⟨zs, H2, I2, rz, l1, l2, q2⟩ => ⟨I2.kIn, ?_⟩
  rw [hks]
  exact run_own F hr hb (hx σ) I2 r rz l1 l2 q2
theorem pe_own0 (F : FnOk X.prog X.w X.K X.mg X.base CX k f fd ps sp) (hr : Room k X.A) (hg : Gl X x) (hm : X.mg x = some (.ref f)) (hk : PySem.W.keepIn X.K (.ref f) = true) (hb : KBn X.K fd ps n ks g gV) (hx : ∀ σ, PassesAt CX X σ (E σ))
    (hkw : PK X kws tk) (hall : (backToKw pos (keywordEach kws X.env)).all (·.1.isSome) = true := by rfl) (hks : (backToKw pos (keywordEach kws X.env)).filterMap (·.1) = ks := by rfl)
    (hdb : (x == ("__debug__" : Str)) = false := by decide)
    (hpl : ((backTo pos (starEach [] X.env)).any (·.1) || (backToKw pos (keywordEach kws X.env)).any (·.1.isNone)) = false := by rfl) :
    PE X (.Call (.Name x p) [] kws pos) (tOwn n ks.length sp gV E tNil tk) := by
  refine ⟨fun pins s σ H Q I h => ?_⟩
  refine wpAny_Call_Name_kw (ld_glob I hg hm ?_ hdb)
  refine PySem.W.callWith_KW0 (h₀ := X.base) I.ok.mod.kin hk hall (thn (hkw.run pos pins s σ H _ I h) fun ws s2 ⟨zs, H2, I2, rz, l1, l2, q2⟩ => ⟨I2.kIn, ?_⟩) hpl
  rw [hks]
  exact run_own (us := []) F hr hb (hx σ) I2 .nil rz l1 l2 q2
end
/-- keywords' values -/
structure MK (X : Cx) (W : WX) (kws : List Keyword) (m : Fr → S → R (List D)) : Prop where
  h : ∃ t, PK X kws t ∧ ∀ (G H : Hp) (io : List Addr) (env : Fr) (σ : L2.St) (s : S) (Q : List V → Hp → Prop), RE X.mg G io env σ → Rp X.mg G H io s → PoL X.mg G H io (m env s) Q (WAt W σ) → t σ H Q
theorem mk_nil : MK X W [] mNil := ⟨_, pk_nil, fun G H io env σ s Q re rp h => h.now rp RVs.nil⟩
theorem mk_cons {e : Expr} {kws : List Keyword} {nm : Option Str} {kpos : Pos} {m : Fr → S → R D} {ms : Fr → S → R (List D)} (ha : ME X W e m) (hr : MK X W kws ms) : MK X W (⟨nm, e, kpos⟩ :: kws) (mCons m ms) := by
  obtain ⟨t, p, q⟩ := ha.h
  obtain ⟨u, p', q'⟩ := hr.h
  refine ⟨_, pk_cons p p', fun G H io env σ s Q re rp h => q G H io env σ s _ re rp (Po.bind h fun x s1 G1 H1 io1 v e1 rp1 rv h => ?_)⟩
  refine q' G1 H1 io1 env σ s1 _ (re.ext e1) rp1 (Po.bind h fun y s2 G2 H2 io2 vs e2 rp2 rvs h => ?_)
  exact h.now rp2 (RVs.cons (rv.ext e2) rvs)
def mCallK (m : List D → S → R D) (ms mk : Fr → S → R (List D)) : Fr → S → R D := fun env s => (ms env s).bind fun ds s1 => (mk env s1).bind fun es s2 => m (ds ++ es) s2
section
variable {k n : Nat} {x : Str} {ks : List Str} {m : List D → S → R D} {e : Expr} {es : List Expr} {kws : List Keyword} {ms mk : Fr → S → R (List D)} {p pos : Pos}
theorem callK_po {t tk : TA} {sp : Sp} {gV : List V → List V → List V} (hl : hasLen n ms) (hlk : hasLen ks.length mk)
    (qa : ∀ (G H : Hp) (io : List Addr) (env : Fr) (σ : L2.St) (s : S) (Q : List V → Hp → Prop), RE X.mg G io env σ → Rp X.mg G H io s → PoL X.mg G H io (ms env s) Q (WAt W σ) → t σ H Q)
    (qk : ∀ (G H : Hp) (io : List Addr) (env : Fr) (σ : L2.St) (s : S) (Q : List V → Hp → Prop), RE X.mg G io env σ → Rp X.mg G H io s → PoL X.mg G H io (mk env s) Q (WAt W σ) → tk σ H Q)
    (hs : ∀ (vs zs : List V) (H : Hp) (Q : VK) (E : XK), vs.length = n → zs.length = ks.length → SpM X.mg (n + ks.length) m (vs ++ zs) H Q E → sp (gV vs zs) H Q E)
    {G H : Hp} {io : List Addr} {env : Fr} {σ : L2.St} {s : S} {Q : VK} (re : RE X.mg G io env σ) (rp : Rp X.mg G H io s) (h : PoV X.mg G H io (mCallK m ms mk env s) Q (WAt W σ)) : tOwn n ks.length sp gV (WE W) t tk σ H Q := by
  unfold mCallK at h
  refine qa G H io env σ s _ re rp ?_
  cases c : ms env s with
  | ok ds s1 =>
    rw [c] at h
    intro G1 H1 io1 vs e1 rp1 rv
    refine qk G1 H1 io1 env σ s1 _ (re.ext e1) rp1 ?_
    have h1 : PoV X.mg G H io ((mk env s1).bind fun es s2 => m (ds ++ es) s2) Q (WAt W σ) := h
    cases c2 : mk env s1 with
    | ok es s2 =>
      rw [c2] at h1
      intro G2 H2 io2 zs e2 rp2 rz
      have l1 : vs.length = n := by rw [rv.len]; exact hl env s ds s1 c
      have l2 : zs.length = ks.length := by rw [rz.len]; exact hlk env s1 es s2 c2
      refine ⟨l1, l2, hs vs zs H2 Q _ l1 l2 ⟨G2, io2, s2, ds ++ es, by rw [List.length_append, l1, l2], rp2, (rv.ext e2).append rz, Po.ext (e1.trans e2) h1⟩⟩
    | ex a b => rw [c2] at h1; exact Po.ext e1 h1
    | bad => rw [c2] at h1; exact h1.elim
  | ex a b => rw [c] at h; exact h
  | bad => rw [c] at h; exact h.elim
theorem me_callK (F : Fk X.prog X.w X.K X.mg X.base k x n ks m) (hr : Room k X.A) (hg : Gl X x) (tk : Takes X W) (ha : MA X W (e :: es) ms) (hkw : MK X W kws mk) (hl : hasLen n ms) (hlk : hasLen ks.length mk) (hall : (backToKw pos (keywordEach kws X.env)).all (·.1.isSome) = true := by rfl) (hks : (backToKw pos (keywordEach kws X.env)).filterMap (·.1) = ks := by rfl)
    (hdb : (x == ("__debug__" : Str)) = false := by decide) (he : starEach (e :: es) X.env = (false, eval e X.env) :: starEach es X.env := by rfl)
    (hpl : ((backTo pos (starEach (e :: es) X.env)).any (·.1) || (backToKw pos (keywordEach kws X.env)).any (·.1.isNone)) = false := by rfl) :
    ME X W (.Call (.Name x p) (e :: es) kws pos) (mCallK m ms mk) := by
  obtain ⟨f, fd, ps, sp, g, gV, O, hm, hk, hb, hs⟩ := F.h
  obtain ⟨t, pa, qa⟩ := ha.h
  obtain ⟨tq, pk, qk⟩ := hkw.h
  exact ⟨_, pe_own O hr hg hm hk hb (fun σ => passAt tk σ) pa pk hall hks hdb he hpl, fun G H io env σ s Q re rp h => callK_po hl hlk qa qk hs re rp h⟩
theorem me_callK0 (F : Fk X.prog X.w X.K X.mg X.base k x 0 ks m) (hr : Room k X.A) (hg : Gl X x) (tk : Takes X W) (hkw : MK X W kws mk) (hlk : hasLen ks.length mk) (hall : (backToKw pos (keywordEach kws X.env)).all (·.1.isSome) = true := by rfl) (hks : (backToKw pos (keywordEach kws X.env)).filterMap (·.1) = ks := by rfl)
    (hdb : (x == ("__debug__" : Str)) = false := by decide)
    (hpl : ((backTo pos (starEach [] X.env)).any (·.1) || (backToKw pos (keywordEach kws X.env)).any (·.1.isNone)) = false := by rfl) :
    ME X W (.Call (.Name x p) [] kws pos) (mCallK m mNil mk) := by
  obtain ⟨f, fd, ps, sp, g, gV, O, hm, hk, hb, hs⟩ := F.h
  obtain ⟨tq, pk, qk⟩ := hkw.h
  exact ⟨_, pe_own0 O hr hg hm hk hb (fun σ => passAt tk σ) pk hall hks hdb hpl, fun G H io env σ s Q re rp h => callK_po hasLen.nil hlk (fun G H io env σ s Q re rp h => h.now rp RVs.nil) qk hs re rp h⟩
/-- values alone -/
theorem me_callP (F : Fk X.prog X.w X.K X.mg X.base k x n [] m) (hr : Room k X.A) (hg : Gl X x) (tk : Takes X W) (ha : MA X W (e :: es) ms) (hl : hasLen n ms)
    (hdb : (x == ("__debug__" : Str)) = false := by decide) (he : starEach (e :: es) X.env = (false, eval e X.env) :: starEach es X.env := by rfl)
    (hpl : ((backTo pos (starEach (e :: es) X.env)).any (·.1) || (backToKw pos (keywordEach [] X.env)).any (·.1.isNone)) = false := by rfl) :
    ME X W (.Call (.Name x p) (e :: es) [] pos) (mCall m ms) := by
  have e1 : mCall m ms = mCallK m ms mNil := by
    funext env s
    unfold mCall mCallK mNil
    cases ms env s with
    | ok ds s1 => show m ds s1 = m (ds ++ []) s1; rw [List.append_nil]
    | ex _ _ => rfl
    | bad => rfl
  rw [e1]
  exact me_callK F hr hg tk ha mk_nil hl hasLen.nil rfl rfl hdb he hpl
theorem me_callP0 (F : Fk X.prog X.w X.K X.mg X.base k x 0 [] m) (hr : Room k X.A) (hg : Gl X x) (tk : Takes X W)
    (hdb : (x == ("__debug__" : Str)) = false := by decide)
    (hpl : ((backTo pos (starEach [] X.env)).any (·.1) || (backToKw pos (keywordEach [] X.env)).any (·.1.isNone)) = false := by rfl) :
    ME X W (.Call (.Name x p) [] [] pos) (mCall m mNil) := by
  have e1 : mCall m mNil = mCallK m mNil mNil := rfl
  rw [e1]
  exact me_callK0 F hr hg tk mk_nil hasLen.nil rfl rfl hdb hpl
end
/-! ### a def's rule -/
section
variable {P : Program} {w : World} {K : PySem.W.Frag} {mg : MG} {base : Heap}
theorem fn_d {x qual : Str} {params : Arguments} {stmts : List Stmt} {scope : Scope} {dvs : List V} {kws : List (Str × V)} {f : Addr} {fd : FuncData} {N ps : List Str} {k : Nat} {body : Fr → S → T} (F : FunD K x qual params stmts scope dvs kws f fd) (Sc : FnScope N ps scope)
    (h : ∀ (cdv : Value) (A : Around) (outer : List Env) (s : Shared) (H : Hp) (E : XK), Room k (A.deeper (envOfC qual scope s.heap.objs.size f cdv)) →
      MSs (cxOf (L2.CX P w) P w K mg base N qual scope f cdv A outer s H E) (WE0 E) stmts body) : FnOk P w K mg base (L2.CX P w) (k + 1) f fd ps (SpM mg ps.length (mFn ps.length N.length body)) := by
  refine F.ok Sc (fun vs H Q E ⟨_, _, _, _, hl, _⟩ => hl) (fun cdv A outer s H vs Q E hr ⟨G, io, s0, ds, hl, rp, rv, po⟩ => ?_)
  obtain ⟨t, p, q⟩ := (h cdv A outer s H E hr).h
  refine ⟨t, p, q G H io (ds.map some ++ List.replicate (N.length - ps.length) none) _ s0 _ ?_ rp ?_⟩
  · show RE mg G io _ (vs.map some ++ List.replicate (N.length - vs.length) none)
    rw [hl]
    exact re_start rv _
  · unfold mFn at po
    rw [if_pos (by rw [← rv.len, hl])] at po
    show PoT mg (WE0 E) G H io _ _
    cases c : body (ds.map some ++ List.replicate (N.length - ps.length) none) s0 with
    | nx e s1 =>
      rw [c] at po
      exact fun G1 H1 io1 σ1 e1 rp1 re1 => po G1 H1 io1 .non e1 rp1 (by simp only [RV])
    | rt d s1 => rw [c] at po; exact po
    | bk e s1 => rw [c] at po; exact po.elim
    | ct e s1 => rw [c] at po; exact po.elim
    | ex x e s1 =>
      rw [c] at po
      exact fun G1 H1 io1 σ1 C dx e1 rp1 re1 rx => po G1 H1 io1 C dx e1 rp1 rx
    | bad => rw [c] at po; exact po.elim
theorem ok_seal {k n : Nat} {f : Addr} {fd : FuncData} {ps : List Str} {m : List D → S → R D} (F : FnOk P w K mg base (L2.CX P w) k f fd ps (SpM mg n m)) : FnOk P w K mg base (L2.CX P w) k f fd ps (SpM mg n (mSeal m)) :=
  F.imp fun vs H Q E ⟨G, io, s, ds, hl, rp, rv, po⟩ => ⟨G, io, s, ds, hl, rp, rv, seal_po rp po⟩
theorem ok_weak {k n : Nat} {f : Addr} {fd : FuncData} {ps : List Str} {m m' : List D → S → R D} (F : FnOk P w K mg base (L2.CX P w) k f fd ps (SpM mg n m)) (h : ∀ ds s, m' ds s = .bad ∨ m' ds s = m ds s) : FnOk P w K mg base (L2.CX P w) k f fd ps (SpM mg n m') :=
  F.imp fun vs H Q E ⟨G, io, s, ds, hl, rp, rv, po⟩ => ⟨G, io, s, ds, hl, rp, rv, by
    rcases h ds s with e | e
    · rw [e] at po; exact po.elim
    · rw [e] at po; exact po⟩
end
/-! ### the head -/
def isLst (o : Obj) : Bool := match o.cls with
  | .type c => decide (c = "list")
  | _ => false
def frL (g : Addr → Option Obj) (as : List Addr) : PySem.W.Frag := (He.frG g as).filter fun q => !isLst q.2
theorem look_mem {a : Addr} {o : Obj} : ∀ {l : List (Addr × Obj)}, l.lookup a = some o → (a, o) ∈ l
  | [], h => by cases h
  | (b, u) :: r, h => by
    rw [List.lookup_cons] at h
    split at h
    · rename_i e
      cases h
      rw [eq_of_beq e]
      exact List.mem_cons_self
    · exact List.mem_cons_of_mem _ (look_mem h)
theorem frL_look {g : Addr → Option Obj} {as : List Addr} {a : Addr} {o : Obj} (h : (frL g as).lookup a = some o) : g a = some o ∧ isLst o = false := by
  obtain ⟨h1, h2⟩ := List.mem_filter.mp (look_mem h)
  unfold He.frG at h1
  obtain ⟨b, _, e⟩ := List.mem_filterMap.mp h1
  obtain ⟨u, hu, e2⟩ := Option.map_eq_some_iff.mp e
  injection e2 with e3 e4
  subst e3 e4
  exact ⟨hu, by simpa using h2⟩
theorem frL_in {as : List Addr} {h : Heap} : (frL h.get? as).In h := fun _ _ e => (frL_look e).1
/-- no lists in K -/
def NoLst (K : PySem.W.Frag) : Prop := ∀ a o, K.lookup a = some o → isLst o = false
def obsY (B : PySem.W.Frag → Bool) (fn : List He.DefD) (K : PySem.W.Frag) : He.AlD := (B K && fn.all fun d => d.ok K, fn.map fun d => He.fnW K d.at_)
def SaysY (B : PySem.W.Frag → Bool) (fn : List He.DefD) (K : PySem.W.Frag) : Prop := NoLst K ∧ obsY B fn K = He.valD fn
def obsYG (n : Nat) (B : PySem.W.Frag → Bool) (fn : List He.DefD) (g : Addr → Option Obj) : He.AlD := obsY B fn (frL g (He.asD g n))
def hookY (n : Nat) (B : PySem.W.Frag → Bool) (fn : List He.DefD) : PySem.W.Hook where
  α := He.AlD
  obs := fun s => obsYG n B fn s.heap.get?
  val := fun _ => He.valD fn
  says := fun _ h => ∃ K : PySem.W.Frag, K.In h ∧ SaysY B fn K
  of := fun _ _ e => ⟨_, frL_in, fun _ _ h => (frL_look h).2, e⟩
  keeps := fun _ _ _ ⟨K, hK, c⟩ k => ⟨K, PySem.W.Frag.In.keeps hK k, c⟩
theorem obsYG_eq {n : Nat} {B : PySem.W.Frag → Bool} {fn : List He.DefD} {g : Addr → Option Obj} {s : Shared} (h : ∀ a, g a = s.heap.get? a) : obsYG n B fn g = (hookY n B fn).obs s := by
  have e : g = s.heap.get? := funext h
  rw [e] <;> rfl
section
variable {B : PySem.W.Frag → Bool} {fn : List He.DefD} {K : PySem.W.Frag}
theorem SaysY.facts (c : SaysY B fn K) : B K = true := by
  have h : (B K && fn.all fun d => d.ok K) = true := congrArg (fun z : He.AlD => z.1) c.2
  rw [Bool.and_eq_true] at h
  exact h.1
theorem SaysY.def_ (c : SaysY B fn K) (i : Nat) {d : He.DefD} (h : fn[i]? = some d := by rfl) : ∃ fd, FunD K d.name d.qual d.params d.body d.scope (d.dvs K) (d.kws K) (He.fAd K d.at_) fd := by
  have c2 : (B K && fn.all fun d => d.ok K) = true := congrArg (fun z : He.AlD => z.1) c.2
  rw [Bool.and_eq_true] at c2
  have e : fn.map (fun d => He.fnW K d.at_) = fn.map He.DefD.val := congrArg (fun z : He.AlD => z.2) c.2
  have e2 : (fn.map fun d => He.fnW K d.at_)[i]? = (fn.map He.DefD.val)[i]? := by rw [e]
  rw [List.getElem?_map, List.getElem?_map, h] at e2
  exact He.DefD.funD (Option.some.inj e2) (List.all_eq_true.mp c2.2 d (List.mem_of_getElem? h))
end
/-- facts by names -/
def factsB (fa : List He.Fa) (K : PySem.W.Frag) : Bool := fa.all fun f => f.ok K
theorem factsB_at {fa : List He.Fa} {K : PySem.W.Frag} (c : factsB fa K = true) (i : Nat) {f : He.Fa} (h : fa[i]? = some f := by rfl) : f.ok K = true := List.all_eq_true.mp c f (List.mem_of_getElem? h)
/-! ### the law's start -/
theorem rvs_ints {mg : MG} {G : Hp} {io : List Addr} : ∀ ns : List Int, RVs mg G io (ns.map D.int) (ns.map V.int)
  | [] => RVs.nil
  | n :: ns => RVs.cons (by simp only [RV]) (rvs_ints ns)
theorem law_sp {K : PySem.W.Frag} {mg : MG} (nl : NoLst K) {m : List D → S → R D} {n : Nat} (hlaw : ∀ ns : List Int, ns.length ≤ n → ∃ s, m [.scr (ns.map .int)] [] = .ok (.bl true) s) (H : Hp) (a : Addr) (ns : List Int) (hl : ns.length ≤ n) (hO : Only H) (hS : SqL K H a (ns.map V.int)) :
    SpM mg 1 m [.ref a] H (fun v _ => v = .bl true) fun _ _ _ => False := by
  rcases hS with hS | ⟨o, its, k, lk, hc, _⟩
  · have hf : ∃ o, H a = some (.frz o (.lst (ns.map V.int))) := by
      rcases hS with hS | hS
      · rcases hO a with h | ⟨o, xs, h⟩
        · rw [h] at hS; cases hS
        · rw [h] at hS; cases hS
      · exact hS
    obtain ⟨o, ho⟩ := hf
    refine ⟨fun b => if b = a then H a else none, [], [], [.scr (ns.map .int)], rfl, ⟨fun b u h => ?_, rfl, List.nodup_nil, fun i b c h => by simp at h⟩, RVs.cons ?_ RVs.nil, ?_⟩
    · by_cases e : b = a
      · subst e
        have h2 : (if b = b then H b else none) = some u := h
        rw [if_pos rfl] at h2
        exact h2
      · have h2 : (if b = a then H a else none) = some u := h
        rw [if_neg e] at h2
        cases h2
    · simp only [RV]
      exact ⟨a, o, ns.map V.int, rfl, by rw [if_pos rfl]; exact ho, rvs_ints ns⟩
    · obtain ⟨s, hs⟩ := hlaw ns hl
      rw [hs]
      intro G' H' io' v e rp rv
      simpa only [RV] using rv
  · have := nl a o lk
    unfold isLst at this
    rw [hc] at this
    exact absurd this (by decide)
end Mi

set_option Elab.async false
set_option linter.all false
set_option maxRecDepth 100000
set_option maxHeartbeats 4000000
/-! sorted(set(..)), len(set(..)). -/
namespace Mi
open PySem PySem.Spec PyProof.Rows L2
section
variable {P : Program} {w : World} {A : Around} {E : Value → Shared → Prop} {s : Shared}
/-- set(l), l a list of ints: the set, its table too -/
theorem set_of_list {l : Addr} {items : Array Value} (ns : List Int) {Q : Value → Shared → Prop} (hh : A.handled = none) (hl : s.heap.IsList l items) (hit : IntsAre items.toList ns) (hb : ns.length + 1 < scanBound)
    (h : ∀ (h' : Heap) (tk c : Nat), SetR w h' s.heap.objs.size (fun j => decide (j ∈ ns)) c → c ≤ ns.length → (∀ b o, s.heap.get? b = some o → h'.get? b = some o) → Q (.ref s.heap.objs.size) { s with heap := h', toks := tk }) :
    wpAny (model P w) A (call (.type "set") [.ref l]) Q E s := by
  have hisz : items.size = ns.length := by
    have q := IntsAre.length hit
    rw [Array.length_toList] at q
    exact q
  let o0 : Obj := { cls := .type "set", dict := none, data := .set #[] 0 (.fresh 0 0 (!w.params.followText "set-order")) }
  obtain ⟨c, tl, hmro⟩ := F.called_set.mro
  have hmade := F.called_set.made
  have hsub := F.called_set.sub
  refine wpAny_call (codeAny_of_tree ?_)
  show wpAny _ _ (callAny (.type "set") _) _ _ _
  refine wpAny_pure ⟨Code.quiet_builtin _ (by decide +kernel), codeAny_builtin F.entry_type_call ?_⟩
  rw [Around.under_plain (weight_type_call_type "set" [.ref l] []) rfl]
  have h1 := F.called_set.notType
  have h2 := F.called_set.canCreate
  have hct := F.typeCall_set_1 (.ref l)
  repeat (any_goals (first | assumption | wp_step))
  refine codeAny_mono (code_set_led1 (.ref l) (E := E) (Q₁ := fun obj s₁ => obj = .ref s.heap.objs.size ∧ s₁ = { s with heap := s.heap.push o0 }) ⟨rfl, rfl⟩) fun r s₁ hr => ?_
  cases r with
  | error e => exact hr
  | ok fl =>
    cases fl with
    | ret obj =>
      obtain ⟨rfl, rfl⟩ := hr
      have hS : (s.heap.push o0).get? s.heap.objs.size = some o0 := Heap.get?_push_size _ rfl
      have hT : Shared.TypeIs { s with heap := s.heap.push o0 } (.ref s.heap.objs.size) "set" := ⟨_, hS, rfl⟩
      have hli := F.called_set.init.lookup
      have hbi := F.called_set.init.bind (.ref s.heap.objs.size)
      repeat (any_goals (first | assumption | wp_step))
      refine codeAny_mono (codeAny_call_builtin (R := wants (fun r s₂ => r = .none ∧ ∃ h' tk c, s₂ = { s with heap := h', toks := tk } ∧ SetR w h' s.heap.objs.size (fun j => decide (j ∈ ns)) c ∧ c ≤ ns.length ∧
          (∀ b o, s.heap.get? b = some o → h'.get? b = some o)) E) F.called_set.init.plain F.entry_set_init (check_set_init_1 hT ?_)) fun r₂ s₂ hr₂ => ?_
      · obtain ⟨ol, hol, hcl, nl, hdl⟩ := hl
        obtain ⟨ocls, odict, odata, oslots⟩ := ol
        simp only at hcl hdl
        subst hcl; subst hdl
        have hol' : (s.heap.push o0).get? l = some { cls := .type "list", dict := odict, data := .seq items nl, slots := oslots } := Heap.get?_push_of_some _ hol
        have hsls := F.sub_list_set
        have hslf := F.sub_list_frozenset
        have hne : (Value.type "list" == Value.type "dict") = false := by decide
        have hl1 : (s.heap.push o0).IsList l items := ⟨_, hol', rfl, nl, rfl⟩
        unfold Builtin.«set.__init__» noKeywords Builtin.Frozenset.updateFrom
        generalize hPI : pyIter = PI
        wp_walk
        subst hPI
        refine wpAny_pyIter_list hl1 ?_
        refine wpAny_bind (wpAny_runValue ?_)
        have hlS : l < s.heap.objs.size := Heap.lt_size hol
        have hh3 : A.in1.in1.in1.handled = none := by simp [hh]
        have hneI : l ≠ (s.heap.push o0).objs.size := by
          rw [Heap.size_push]; exact Nat.ne_of_lt (Nat.lt_succ_of_lt hlS)
        have hSf : s.heap.objs.size ∉ [(s.heap.push o0).objs.size, l] := by
          rw [Heap.size_push]; simp only [List.mem_cons, List.mem_singleton, List.not_mem_nil, or_false, not_or]
          exact ⟨Nat.ne_of_lt (Nat.lt_succ_self _), Nat.ne_of_gt hlS⟩
        have hval : ∀ (i : Nat) (v : Value), items[i]? = some v → ∃ k t, ns[i]? = some k ∧ v = .int k t := fun i v hv => by
          have hi : i < ns.length := by rw [← hisz]; exact (Array.getElem?_eq_some_iff.mp hv).1
          obtain ⟨t, e⟩ := PyProof.Rows.IntsAre.int_at hit i v (by rw [Array.getElem?_toList]; exact hv)
          refine ⟨ns[i], t, List.getElem?_eq_getElem hi, ?_⟩
          rw [e, List.getD_eq_getElem?_getD, List.getElem?_eq_getElem hi] <;> rfl
        refine set_update_ints ((Walks.list hh3 _ l hneI items).toS) s.heap.objs.size
          hSf ns hisz hb hval (items.size - 0) 0 _ (by omega) (Nat.zero_le _)
          ⟨⟨_, Heap.get?_push_size _ rfl, rfl, rfl⟩, (hl1.push _)⟩ ?hS0 ?hR
        case hS0 =>
          have hget : ((s.heap.push o0).push { cls := .type "list_iterator", data := .fields #[.ref l, .int 0 0] }).get? s.heap.objs.size = some o0 := Heap.get?_push_of_some _ hS
          exact ⟨0, Nat.le_refl 0, setR_new_at hget⟩
        case hR =>
          intro s' c' hm hc' hS'
          obtain ⟨h', g2, d', tk', os'⟩ := s'
          have eg : g2 = s.gens := hm.gens
          have ed : d' = s.drawn := hm.drawn
          have eo : os' = s.os := hm.os
          subst eg; subst ed; subst eo
          show wpAny _ _ _ _ _ _
          refine wpAny_pure ?_
          show wpAny _ _ (ret Value.none) _ _ _
          rw [hisz] at hc'
          refine wpAny_pure ⟨rfl, h', tk', c', rfl, hS', hc', fun b o e => ?_⟩
          have hb0 : b < s.heap.objs.size := Heap.lt_size e
          have hb1 : b ≠ s.heap.objs.size := Nat.ne_of_lt hb0
          have hb2 : b ≠ (s.heap.push o0).objs.size := by
            rw [Heap.size_push]; exact Nat.ne_of_lt (Nat.lt_succ_of_lt hb0)
          exact hm.heap b o (by simp only [List.mem_cons, List.mem_singleton, List.not_mem_nil, or_false, not_or]; exact ⟨hb1, hb2⟩) (Heap.get?_push_of_some _ (Heap.get?_push_of_some _ e))
      · cases r₂ with
        | error e => exact hr₂
        | ok fl₂ =>
          cases fl₂ with
          | ret r =>
            obtain ⟨rfl, h', tk, c', rfl, hS', hc', hk'⟩ := hr₂
            repeat (any_goals (first | assumption | wp_step))
            exact h _ _ _ hS' hc' hk'
          | _ => exact hr₂.elim
    | _ => exact hr.elim
end
end Mi

set_option Elab.async false
set_option linter.all false
set_option maxRecDepth 100000
/-! sorted(set(..)), len(set(..)), by values. -/
namespace Mi
open PySem PySem.Spec PyProof.Rows L2
variable {X : Cx} {W : WX}
/-! ### ascending, each once -/
def insU (k : Int) : List Int → List Int
  | [] => [k]
  | x :: r => if k < x then k :: x :: r else if k = x then x :: r else x :: insU k r
def sortU (xs : List Int) : List Int := xs.foldr insU []
theorem mem_insU {k j : Int} : ∀ {l : List Int}, j ∈ insU k l ↔ j = k ∨ j ∈ l
  | [] => by simp [insU]
  | x :: r => by
    unfold insU
    split
    · simp
    · split
      · rename_i e
        subst e
        simp
      · simp only [List.mem_cons, mem_insU (l := r)]
        constructor
        · rintro (h | h | h)
          · exact .inr (.inl h)
          · exact .inl h
          · exact .inr (.inr h)
        · rintro (h | h | h)
          · exact .inr (.inl h)
          · exact .inl h
          · exact .inr (.inr h)
theorem asc_insU {k : Int} : ∀ {l : List Int}, l.Pairwise (· < ·) → (insU k l).Pairwise (· < ·)
  | [], _ => by simp [insU]
  | x :: r, h => by
    obtain ⟨h1, h2⟩ := List.pairwise_cons.mp h
    unfold insU
    split
    · rename_i hk
      refine List.pairwise_cons.mpr ⟨fun y hy => ?_, h⟩
      rcases List.mem_cons.mp hy with rfl | hy
      · exact hk
      · exact Int.lt_trans hk (h1 y hy)
    · split
      · exact h
      · rename_i hk hne
        refine List.pairwise_cons.mpr ⟨fun y hy => ?_, asc_insU h2⟩
        rcases mem_insU.mp hy with rfl | hy
        · omega
        · exact h1 y hy
theorem mem_sortU {j : Int} : ∀ {l : List Int}, j ∈ sortU l ↔ j ∈ l
  | [] => Iff.rfl
  | x :: r => by
    show j ∈ insU x (sortU r) ↔ _
    rw [mem_insU, mem_sortU, List.mem_cons]
theorem asc_sortU : ∀ l : List Int, (sortU l).Pairwise (· < ·)
  | [] => List.Pairwise.nil
  | x :: r => asc_insU (asc_sortU r)
theorem asc_unique : ∀ {l r : List Int}, l.Pairwise (· < ·) → r.Pairwise (· < ·) → (∀ k, k ∈ l ↔ k ∈ r) → l = r
  | [], [], _, _, _ => rfl
  | [], y :: r, _, _, h => absurd ((h y).mpr List.mem_cons_self) (by simp)
  | x :: l, [], _, _, h => absurd ((h x).mp List.mem_cons_self) (by simp)
  | x :: l, y :: r, hl, hr, h => by
    obtain ⟨l1, l2⟩ := List.pairwise_cons.mp hl
    obtain ⟨r1, r2⟩ := List.pairwise_cons.mp hr
    have e : x = y := by
      rcases List.mem_cons.mp ((h x).mp List.mem_cons_self) with e | e
      · exact e
      · rcases List.mem_cons.mp ((h y).mpr List.mem_cons_self) with f | f
        · exact f.symm
        · have a := r1 x e
          have b := l1 y f
          omega
    subst e
    rw [asc_unique l2 r2 fun k => ⟨fun hk => ?_, fun hk => ?_⟩]
    · rcases List.mem_cons.mp ((h k).mp (List.mem_cons_of_mem _ hk)) with e | e
      · have := l1 k hk
        omega
      · exact e
    · rcases List.mem_cons.mp ((h k).mpr (List.mem_cons_of_mem _ hk)) with e | e
      · have := r1 k hk
        omega
      · exact e
/-- set(xs), xs a list or a tuple of ints -/
def rSetL (K : PySem.W.Frag) (w : World) : List V → Hp → VK → Prop := fun xs H Q => ∃ (l : Addr) (ns : List Int), xs = [V.ref l] ∧ (SqL K H l (ns.map V.int) ∨ SqT K H l (ns.map V.int)) ∧ ns.length + 1 < scanBound ∧
  ∀ a, H a = none → Q (.ref a) (upd H a (SetO w a (fun j => decide (j ∈ ns)) (sortU ns).length))
theorem set_count {w : World} {h : Heap} {a : Addr} {ns : List Int} {c : Nat} (R : SetR w h a (fun j => decide (j ∈ ns)) c) : c = (sortU ns).length := by
  obtain ⟨o, es, ep, t, ho, hx, hd, g, nd, hm, hb, hf, hn, _⟩ := R
  have nd2 : (sortU ns).Nodup := (asc_sortU ns).imp fun h => by omega
  have p := (List.perm_ext_iff_of_nodup nd nd2).mpr fun k => by rw [mem_sortU, ← hm k, decide_eq_true_iff]
  rw [← p.length_eq, List.length_map, Array.length_toList, hn]
theorem cr_setL (hc : X.calm = true) : CallR X (.type "set") (rSetL X.K X.w) := by
  intro pins s σ H xs us Q I r h
  obtain ⟨l, ns, rfl, hl, hb, q⟩ := h
  rw [Vals.ref1 r]
  have hn : H s.heap.objs.size = none := I.hok.fresh (Nat.le_refl _)
  have fin : ∀ (h' : Heap) (tk c : Nat), SetR X.w h' s.heap.objs.size (fun j => decide (j ∈ ns)) c → (∀ b o, s.heap.get? b = some o → h'.get? b = some o) → EP X pins σ Q (.ref s.heap.objs.size) { s with heap := h', toks := tk } := fun h' tk c R k => by
    have e := set_count R
    subst e
    exact ⟨.ref s.heap.objs.size, upd H s.heap.objs.size (SetO X.w s.heap.objs.size (fun j => decide (j ∈ ns)) (sortU ns).length), I.laid (t' := tk) k (Nat.le_refl _) (setO_new R), rfl, q _ hn⟩
  rcases hl with hl | hl
  · obtain ⟨its, rv, pl, hz⟩ := I.list hl
    exact set_of_list (items := its.toArray) ns (I.ok.hd hc) pl.isList (by simpa using rv.ints) hb fun h' tk c R _ k => fin h' tk c R k
  · obtain ⟨its, rv, pl, hz⟩ := I.tuple hl
    exact call_set_tupI (items := its.toArray) ns (I.ok.hd hc) pl (by simpa using rv.ints) hb fun h' tk c R _ k => fin h' tk c R k
def asInt : D → Option Int
  | .int i => some i
  | _ => none
theorem rvs_asInt {mg : MG} {G : Hp} {io : List Addr} : ∀ {xs : List D} {vs : List V} {ns : List Int}, RVs mg G io xs vs → xs.mapM asInt = some ns → vs = ns.map V.int
  | [], vs, ns, r, h => by
    simp at h
    subst h
    rw [r.nil_inv]
    rfl
  | x :: xs, vs, ns, r, h => by
    obtain ⟨v, vr, rfl, r1, rr⟩ := r.cons_inv
    rw [List.mapM_cons] at h
    cases x <;> first | (cases h; done) | skip
    rename_i i
    cases c : xs.mapM asInt with
    | none => rw [c] at h; cases h
    | some ms =>
      rw [c] at h
      cases h
      simp only [RV] at r1
      rw [r1, rvs_asInt rr c]
      rfl
/-- sorted(set(d)) of ints -/
def setSort (mk : List D → S → R D) (d : D) (s : S) : R D := match asQ d s with
  | some xs => match xs.mapM asInt with
    | some ns => if ns.length < 1000 ∧ (sortU ns).length < 64 then mk ((sortU ns).map .int) s else .bad
    | none => .bad
  | none => .bad
theorem decide_iff' {p q : Prop} [Decidable p] (h : (decide p = true) ↔ q) : p ↔ q := ⟨fun a => h.mp (decide_eq_true a), fun b => of_decide_eq_true (h.mpr b)⟩
/-- what it is, of values -/
theorem setSort_po {mk : List D → S → R D} (hk : Mk mk) {G H : Hp} {io : List Addr} {s : S} {d : D} {v : V} {Q : VK} {E : XK} (rp : Rp X.mg G H io s) (rv : RV X.mg G io d v) (h : PoV X.mg G H io (setSort mk d s) Q E) :
    rSetL X.K X.w [v] H fun u H1 => rSortedSet X.w [u] H1 Q := by
  unfold setSort at h
  split at h
  · rename_i xs hx
    split at h
    · rename_i ns hns
      split at h
      · rename_i hl
        obtain ⟨a, vs, rfl, h1, h2⟩ := asQ_rv (K := X.K) rp rv hx
        have e := rvs_asInt h2 hns
        subst e
        refine ⟨a, ns, rfl, h1, by unfold scanBound; omega, fun b hb => ⟨b, _, _, rfl, upd_same, hl.2, fun ms p ha hm hlen hp => ?_⟩⟩
        have e : ms = sortU ns := asc_unique ha (asc_sortU ns) fun k => by rw [mem_sortU, hm k, decide_eq_true_iff]
        subst e
        exact (hk.h _ _ _ _ _ _ _ _ _ (rp.still hb) (rvs_ints _) (Po.ext (rp.stillE hb) h)).2 p hp
      · exact h.elim
    · exact h.elim
  · exact h.elim
/-- sorted(set(e)) -/
theorem me_sortedSet {mk : List D → S → R D} (hk : Mk mk) {e : Expr} {m : Fr → S → R D} {p p2 q pos : Pos} (hc : X.calm = true) (hg : Gl X "sorted") (hm : X.mg "sorted" = none) (hg2 : Gl X "set") (hm2 : X.mg "set" = none) (he : ME X W e m) (he' : starEach [e] X.env = (false, eval e X.env) :: starEach [] X.env := by rfl) (hpl : (backTo q (starEach [] X.env)).any (·.1) = false := by rfl)
    (he2 : starEach [.Call (.Name "set" p2) [e] [] q] X.env = (false, eval (.Call (.Name "set" p2) [e] [] q) X.env) :: starEach [] X.env := by rfl) (hpl2 : (backTo pos (starEach [] X.env)).any (·.1) = false := by rfl) :
    ME X W (.Call (.Name "sorted" p) [.Call (.Name "set" p2) [e] [] q] [] pos) (mUn (setSort mk) m) := by
  obtain ⟨t, pe, qe⟩ := he.h
  refine ⟨_, pe_callB (cr_sortedSet hc) hg hm boot_sorted (pa_cons (pe_callTy (cr_setL hc) hg2 hm2 boot_set (pa_cons pe pa_nil he') (by decide) (by decide) he' hpl) pa_nil he2) (by decide) (by decide) he2 hpl2, fun G H io env σ s Q re rp h => ?_⟩
  refine qe G H io env σ s _ re rp (Po.bind h fun d s1 G1 H1 io1 v e1 rp1 rv h => ?_)
  exact setSort_po hk rp1 rv h
end Mi

set_option Elab.async false
set_option linter.all false
set_option maxRecDepth 100000
/-! Small joints between printed texts and the layer. -/
namespace Mi
open PySem PySem.Spec PyProof.Rows L2
abbrev isiM (sub : Ty1 → D → Option Bool) : List D → S → R D := fun ds s => match ds with
    | [_, .tup []] => .bad
    | _ => isiOp sub ds s
theorem tk0 {X : Cx} : Takes X W0 := fun u s' ⟨a, B, sI, pins, σ, H, cls, d, e, I, nb, up, sky, na, os, ag, w⟩ => w.elim
theorem Room.units5 {k : Nat} {A : Around} (r : Room k A) : A.units + 65 < cLine := by
  have := r.un
  omega
theorem _root_.L2.Room.units5 {k : Nat} {A : Around} (r : Room k A) : A.units + 65 < cLine := by
  have := r.un
  omega
section
variable {P : Program} {w : World} {K : PySem.W.Frag} {mg : MG} {base : Heap} {k n : Nat} {x : Str}
theorem fn_bad {f : Addr} {fd : FuncData} {ps : List Str} : FnOk P w K mg base (L2.CX P w) k f fd ps (SpM mg n fun _ _ => .bad) :=
  ⟨fun vs H Q E ⟨_, _, _, _, _, _, _, po⟩ => po.elim, fun A outer s H args us vs Q E _ _ _ _ ⟨_, _, _, _, _, _, _, po⟩ => po.elim⟩
/-- every value written, no defaults -/
theorem Fk.same {qual : Str} {params : Arguments} {body : List Stmt} {scope : Scope} {f : Addr} {fd : FuncData} {ps : List Str} {m : List D → S → R D} (F : FunD K x qual params body scope [] [] f fd) (O : FnOk P w K mg base (L2.CX P w) k f fd ps (SpM mg n m)) {y : Str} (hm : mg y = some (.ref f))
    (h : ∀ (kV doc pm : Value) (an : Option Addr) (cdv ct : Value) (us : List Value), us.length = n → bindArgs (PySem.W.fnOf x qual params body scope .none kV doc pm an cdv ct) ⟨us, []⟩ = pure (ps.zip us)) : Fk P w K mg base k y n [] m := by
  refine ⟨f, fd, ps, _, fun us _ => us, fun vs _ => vs, O, hm, F.kp, ⟨fun s us ws X l1 l2 => ?_, fun r1 _ => r1⟩, fun vs zs H Q E l1 l2 h => ?_⟩
  · obtain ⟨oc, od, dV, kV, doc, pm, an, cdv, ct, osl, rfl, lk, hcd, hD, hK⟩ := F.ex
    rcases hD with ⟨_, rfl⟩ | ⟨e, _⟩
    · exact .of_eq (h kV doc pm an cdv ct us l1)
    · exact absurd rfl e
  · have e : zs = [] := List.length_eq_zero_iff.mp l2
    subst e
    rw [List.append_nil] at h
    exact h
theorem ok_nox {f : Addr} {fd : FuncData} {ps : List Str} {sp : Sp} (F : FnOk P w K mg base (L2.CX P w) k f fd ps sp) : FnOk P w K mg base CX0 k f fd ps (fun vs H Q _ => sp vs H Q E0) :=
  ⟨fun vs H Q E h => F.len vs H Q E0 h, fun A outer s H args us vs Q E hr he hb hv hs => codeAny_mono (F.run A outer s H args us vs Q E0 hr he hb hv hs) fun r s' h => by
    cases r with
    | error e =>
      obtain ⟨a, B, H', cls, d, _, _, _, _, _, _, _, q⟩ := h
      exact q.elim
    | ok fl => cases fl <;> exact h⟩
end
theorem ownEx_of {K : PySem.W.Frag} {mg : MG} {c : Str} {Y : Cx} (h : mg c = some (.ref (He.ga K c))) (q : PySem.W.excIn K (He.ga K c) He.veBase "ValueError.__new__" = true ∧ PySem.W.keepIn K (.ref (He.ga K c)) = true ∧ PySem.W.subIn K (.ref (He.ga K c)) (.type "BaseException") = some true ∧ PySem.W.typeIn K (.ref (He.ga K c)) = some (.type "type"))
    (e1 : Y.K = K) (e2 : Y.mg = mg) : OwnEx Y c (He.ga K c) := by
  subst e1 e2
  exact ⟨h, q.1, q.2.1, raises_own q.2.2.1 q.2.2.2⟩
end Mi

set_option Elab.async false
set_option linter.all false
set_option maxRecDepth 100000
/-! Plain reckoning: what the combinators give at values. -/
namespace Mi
open PySem PySem.W
def rngD (d : D) (s1 : S) : R Wk := match d with
  | .int j => if -(2 ^ 62) ≤ j ∧ j < 2 ^ 62 then .ok ⟨rangeD 0 j, fun _ => true⟩ s1 else .bad
  | _ => .bad
def rngDD (d d' : D) (s2 : S) : R Wk := match d, d' with
  | .int i, .int j => if -(2 ^ 62) ≤ i ∧ i < 2 ^ 62 ∧ -(2 ^ 62) ≤ j ∧ j < 2 ^ 62 then .ok ⟨rangeD i j, fun _ => true⟩ s2 else .bad
  | _, _ => .bad
def aPartD (d : D) (s1 : S) : R (Option Int) := match d with
  | .int i => .ok (some i) s1
  | _ => .bad
theorem aPart_i {i : Int} {s : S} : aPartD (.int i) s = .ok (some i) s := id rfl
theorem rng_i {n : Int} {s : S} (h : -10 ^ 12 ≤ n ∧ n ≤ 10 ^ 12) : rngD (.int n) s = .ok ⟨rangeD 0 n, fun _ => true⟩ s := if_pos (by omega)
theorem rng_ii {i n : Int} {s : S} (h0 : 0 ≤ i ∧ i ≤ 10 ^ 12) (h : 0 ≤ n ∧ n ≤ 10 ^ 12) : rngDD (.int i) (.int n) s = .ok ⟨rangeD i n, fun _ => true⟩ s := if_pos (by omega)
/-! ### the combinators, applied -/
section
variable {env : Fr} {s : S}
theorem bind_o {α β : Type} {a : α} {f : α → S → R β} : (R.ok a s).bind f = f a s := id rfl
theorem bind_x {α β : Type} {x : Ex} {f : α → S → R β} : (R.ex x s).bind f = .ex x s := id rfl
theorem bind_b {α β : Type} {f : α → S → R β} : (R.bad).bind f = .bad := id rfl
theorem go_o {α : Type} {a : α} {f : α → S → T} : (R.ok a s).go env f = f a s := id rfl
theorem go_x {α : Type} {x : Ex} {f : α → S → T} : (R.ex x s).go env f = .ex x env s := id rfl
theorem go_b {α : Type} {f : α → S → T} : (R.bad).go env f = .bad := id rfl
theorem then_nx {f : Fr → S → T} : (T.nx env s).then f = f env s := id rfl
theorem then_rt {d : D} {f : Fr → S → T} : (T.rt d s).then f = .rt d s := id rfl
theorem then_bk {f : Fr → S → T} : (T.bk env s).then f = .bk env s := id rfl
theorem then_ct {f : Fr → S → T} : (T.ct env s).then f = .ct env s := id rfl
theorem then_ex {x : Ex} {f : Fr → S → T} : (T.ex x env s).then f = .ex x env s := id rfl
theorem then_bad {f : Fr → S → T} : (T.bad).then f = .bad := id rfl
theorem mVar_e {i : Nat} : mVar i env s = match env[i]? with | some (some d) => .ok d s | _ => .bad := id rfl
theorem mC_e {d : D} : mC d env s = .ok d s := id rfl
theorem mNil_e : mNil env s = .ok [] s := id rfl
theorem mCons_e {a : Fr → S → R D} {b : Fr → S → R (List D)} : mCons a b env s = (a env s).bind fun d s1 => (b env s1).bind fun ds s2 => .ok (d :: ds) s2 := id rfl
theorem mOp_e {g : D → D → S → R D} {a b : Fr → S → R D} : mOp g a b env s = (a env s).bind fun x s1 => (b env s1).bind fun y s2 => g x y s2 := id rfl
theorem mUn_e {g : D → S → R D} {a : Fr → S → R D} : mUn g a env s = (a env s).bind g := id rfl
theorem mChain_e {g g' : D → D → S → R D} {a b c : Fr → S → R D} : mChain g g' a b c env s = (a env s).bind fun x s1 => (b env s1).bind fun y s2 => (g x y s2).bind fun z s3 => (asB z s3).bind fun k s4 => if k = true then (c env s4).bind fun w s5 => g' y w s5 else .ok (.bl false) s4 := id rfl
theorem mB_e {m : Fr → S → R D} : mB m env s = (m env s).bind asB := id rfl
theorem asB_e {b : Bool} : asB (.bl b) s = .ok b s := id rfl
theorem mAnd_e {a b : Fr → S → R Bool} : mAnd a b env s = (a env s).bind fun c s1 => if c = true then b env s1 else .ok false s1 := id rfl
theorem mOr_e {a b : Fr → S → R Bool} : mOr a b env s = (a env s).bind fun c s1 => if c = true then .ok true s1 else b env s1 := id rfl
theorem mNot_e {a : Fr → S → R Bool} : mNot a env s = (a env s).bind fun c s1 => .ok (!c) s1 := id rfl
theorem mAndV_e {a b : Fr → S → R D} : mAndV a b env s = (a env s).bind fun x s1 => (asB x s1).bind fun c s2 => if c = true then b env s2 else .ok (.bl false) s2 := id rfl
theorem mOrV_e {a b : Fr → S → R D} : mOrV a b env s = (a env s).bind fun x s1 => (asB x s1).bind fun c s2 => if c = true then .ok (.bl true) s2 else b env s2 := id rfl
theorem mNotV_e {a : Fr → S → R D} : mNotV a env s = (a env s).bind fun x s1 => (asB x s1).bind fun c s2 => .ok (.bl (!c)) s2 := id rfl
theorem mIf_e {c : Fr → S → R Bool} {a b : Fr → S → R D} : mIf c a b env s = (c env s).bind fun k s1 => if k = true then a env s1 else b env s1 := id rfl
theorem mDisp_e {mk : List D → S → R D} {ms : Fr → S → R (List D)} : mDisp mk ms env s = (ms env s).bind mk := id rfl
theorem mCall_e {m : List D → S → R D} {ms : Fr → S → R (List D)} : mCall m ms env s = (ms env s).bind fun ds s1 => m ds s1 := id rfl
theorem mCallK_e {m : List D → S → R D} {ms mk : Fr → S → R (List D)} : mCallK m ms mk env s = (ms env s).bind fun ds s1 => (mk env s1).bind fun es s2 => m (ds ++ es) s2 := id rfl
theorem mMethL_e {g : D → List D → S → R D} {o : Fr → S → R D} {ms : Fr → S → R (List D)} : mMethL g o ms env s = (o env s).bind fun x s1 => match asL x s1 with
  | some _ => (ms env s1).bind fun ds s2 => g x ds s2
  | none => .bad := id rfl
theorem noPart_e : noPart env s = .ok none s := id rfl
theorem aPart_e {m : Fr → S → R D} : aPart m env s = (m env s).bind aPartD := id rfl
theorem mSl_e {mk : List D → S → R D} {m : Fr → S → R D} {lo hi : Fr → S → R (Option Int)} : mSl mk m lo hi env s = (m env s).bind fun x s1 => (lo env s1).bind fun l s2 => (hi env s2).bind fun h s3 => slOp mk x l h s3 := id rfl
theorem mIter_e {m : Fr → S → R D} : mIter m env s = (m env s).bind iterD := id rfl
theorem rng1_e {m : Fr → S → R D} : rng1 m env s = (m env s).bind rngD := id rfl
theorem rng2_e {m n : Fr → S → R D} : rng2 m n env s = (m env s).bind fun d s1 => (n env s1).bind fun d' s2 => rngDD d d' s2 := id rfl
theorem mLc_e {mk : List D → S → R D} {it : Fr → S → R Wk} {vs : List Nat} {tg : Tg} {tt : Fr → S → R Bool} {te : Fr → S → R D} : mLc mk it vs tg tt te env s = (it env s).bind fun wk s1 => (noex (lcGo wk.chk (gD tg) tt te (wipeE env vs) wk.items s1)).bind mk := id rfl
theorem yesM_e : yesM env s = .ok true s := id rfl
theorem mSeq_e {a b : Fr → S → T} : mSeq a b env s = (a env s).then b := id rfl
theorem mNext_e : mNext env s = .nx env s := id rfl
theorem mBreak_e : mBreak env s = .bk env s := id rfl
theorem mCont_e : mCont env s = .ct env s := id rfl
theorem mExpr_e {m : Fr → S → R D} : mExpr m env s = (m env s).go env fun _ s1 => .nx env s1 := id rfl
theorem mRet_e {m : Fr → S → R D} : mRet m env s = (m env s).go env fun d s1 => .rt d s1 := id rfl
theorem mRetN_e : mRetN env s = .rt .non s := id rfl
theorem mIfS_e {c : Fr → S → R Bool} {a b : Fr → S → T} : mIfS c a b env s = (c env s).go env fun k s1 => if k = true then a env s1 else b env s1 := id rfl
theorem mSet_e {i : Nat} {m : Fr → S → R D} : mSet i m env s = (m env s).go env fun d s1 => .nx (env.set i (some d)) s1 := id rfl
theorem mSetL_e {o i e : Fr → S → R D} : mSetL o i e env s = (e env s).go env fun d s1 => (o env s1).go env fun x s2 => (i env s2).go env fun y s3 => (setOp x y d s3).go env fun _ s4 => .nx env s4 := id rfl
theorem mFor_e {it : Fr → S → R Wk} {g : D → Fr → S → R Fr} {body : Fr → S → T} : mFor it g body env s = (it env s).go env fun wk s1 => forGo wk.chk g body wk.items env s1 := id rfl
theorem mRaise_e {c : Str} : mRaise c env s = .ex ⟨c, [], []⟩ env s := id rfl
theorem mFn_e {n N : Nat} {body : Fr → S → T} {ds : List D} (h : ds.length = n) : mFn n N body ds s = endR (body (ds.map some ++ List.replicate (N - n) none) s) := if_pos h
theorem mFn_1 {N : Nat} {body : Fr → S → T} {a : D} {s : S} : mFn 1 N body [a] s = endR (body ([some a] ++ List.replicate (N - 1) none) s) := id rfl
theorem mFn_2 {N : Nat} {body : Fr → S → T} {a b : D} {s : S} : mFn 2 N body [a, b] s = endR (body ([some a, some b] ++ List.replicate (N - 2) none) s) := id rfl
theorem mFn_3 {N : Nat} {body : Fr → S → T} {a b c : D} {s : S} : mFn 3 N body [a, b, c] s = endR (body ([some a, some b, some c] ++ List.replicate (N - 3) none) s) := id rfl
theorem mFn_4 {N : Nat} {body : Fr → S → T} {a b c d : D} {s : S} : mFn 4 N body [a, b, c, d] s = endR (body ([some a, some b, some c, some d] ++ List.replicate (N - 4) none) s) := id rfl
theorem mFn_5 {N : Nat} {body : Fr → S → T} {a b c d e : D} {s : S} : mFn 5 N body [a, b, c, d, e] s = endR (body ([some a, some b, some c, some d, some e] ++ List.replicate (N - 5) none) s) := id rfl
theorem mFn_6 {N : Nat} {body : Fr → S → T} {a b c d e f : D} {s : S} : mFn 6 N body [a, b, c, d, e, f] s = endR (body ([some a, some b, some c, some d, some e, some f] ++ List.replicate (N - 6) none) s) := id rfl
theorem mFn_7 {N : Nat} {body : Fr → S → T} {a b c d e f g : D} {s : S} : mFn 7 N body [a, b, c, d, e, f, g] s = endR (body ([some a, some b, some c, some d, some e, some f, some g] ++ List.replicate (N - 7) none) s) := id rfl
theorem mFn_8 {N : Nat} {body : Fr → S → T} {a b c d e f g h : D} {s : S} : mFn 8 N body [a, b, c, d, e, f, g, h] s = endR (body ([some a, some b, some c, some d, some e, some f, some g, some h] ++ List.replicate (N - 8) none) s) := id rfl
theorem mFn_0 {N : Nat} {body : Fr → S → T} {s : S} : mFn 0 N body [] s = endR (body (List.replicate N none) s) := id rfl
theorem gN_e {i : Nat} {d : D} : gN i d env s = .ok (env.set i (some d)) s := id rfl
theorem gD_n {i : Nat} {d : D} : gD (.n i) d env s = .ok (env.set i (some d)) s := id rfl
theorem wipeE_nil : wipeE env [] = env := id rfl
theorem wipeE_cons {v : Nat} {vs : List Nat} : wipeE env (v :: vs) = (wipeE env vs).set v none := id rfl
theorem mkF_e {zs : List D} (h : zs.length ≤ sizeLine) : mkF zs s = .ok (.lst zs) s := if_pos h
theorem mkC_e {zs : List D} (h : zs.length ≤ sizeLine) : mkC zs s = .ok (.ref s.length) (s ++ [.lst zs]) := if_pos h
theorem mkT_e {zs : List D} (h : zs.length ≤ sizeLine) : mkT zs s = .ok (.tup zs) s := if_pos h
end
@[simp] theorem endR_rt {d : D} {s : S} : endR (.rt d s) = .ok d s := id rfl
@[simp] theorem endR_nx {e : Fr} {s : S} : endR (.nx e s) = .ok .non s := id rfl
@[simp] theorem endR_ex {x : Ex} {e : Fr} {s : S} : endR (.ex x e s) = .ex x s := id rfl
theorem small {n : Nat} (h : n ≤ 100000 := by simp) : n ≤ sizeLine := Nat.le_trans h (by decide)
/-! ### loops -/
theorem for_nx {chk : S → Bool} {g : D → Fr → S → R Fr} {body : Fr → S → T} (P : List D → Fr → S → Prop) (hc : ∀ xs env s, P xs env s → chk s = true)
    (hs : ∀ x xs env s, P (x :: xs) env s → ∃ env1 s1 env2 s2, g x env s = .ok env1 s1 ∧ (body env1 s1 = .nx env2 s2 ∨ body env1 s1 = .ct env2 s2) ∧ P xs env2 s2) :
    ∀ xs env s, P xs env s → ∃ env' s', forGo chk g body xs env s = .nx env' s' ∧ P [] env' s'
  | [], env, s, h => ⟨env, s, by unfold forGo; rw [if_pos (hc _ _ _ h)], h⟩
  | x :: xs, env, s, h => by
    obtain ⟨env1, s1, env2, s2, h1, h2, h3⟩ := hs x xs env s h
    obtain ⟨env', s', h4, h5⟩ := for_nx P hc hs xs env2 s2 h3
    refine ⟨env', s', ?_, h5⟩
    unfold forGo
    rw [if_pos (hc _ _ _ h), h1, R.go_ok]
    rcases h2 with h2 | h2 <;> rw [h2] <;> exact h4
/-- the block gives ys, P told of the rest and what is made -/
theorem lc_ok {chk : S → Bool} {g : D → Fr → S → R Fr} {tt : Fr → S → R Bool} {te : Fr → S → R D} {env : Fr} (P : List D → List D → S → Prop) (hc : ∀ xs ys s, P xs ys s → chk s = true)
    (hs : ∀ x xs ys s, P (x :: xs) ys s → ∃ env1 s1 b s2, g x env s = .ok env1 s1 ∧ tt env1 s1 = .ok b s2 ∧ (b = false → P xs ys s2) ∧ (b = true → ∃ y s3, te env1 s2 = .ok y s3 ∧ P xs (ys ++ [y]) s3)) :
    ∀ xs ys s, P xs ys s → ∃ zs s', lcGo chk g tt te env xs s = .ok zs s' ∧ P [] (ys ++ zs) s'
  | [], ys, s, h => ⟨[], s, by unfold lcGo; rw [if_pos (hc _ _ _ h)], by rw [List.append_nil]; exact h⟩
  | x :: xs, ys, s, h => by
    obtain ⟨env1, s1, b, s2, h1, h2, h3, h4⟩ := hs x xs ys s h
    unfold lcGo
    rw [if_pos (hc _ _ _ h), h1, R.bind_ok, h2, R.bind_ok]
    cases b with
    | false => exact lc_ok P hc hs xs ys s2 (h3 rfl)
    | true =>
      obtain ⟨y, s3, h5, h6⟩ := h4 rfl
      obtain ⟨zs, s', h7, h8⟩ := lc_ok P hc hs xs (ys ++ [y]) s3 h6
      refine ⟨y :: zs, s', ?_, by rw [List.append_assoc] at h8; exact h8⟩
      rw [if_pos rfl, h5, R.bind_ok, h7]
      rfl
/-- a block that reckons item by item and leaves the store -/
theorem lc_pure {chk : S → Bool} {g : D → Fr → S → R Fr} {tt : Fr → S → R Bool} {te : Fr → S → R D} {env : Fr} {s : S} (hc : chk s = true) {b : D → Bool} {f : D → D} : ∀ {xs : List D},
    (∀ x ∈ xs, ∃ env1, g x env s = .ok env1 s ∧ tt env1 s = .ok (b x) s ∧ (b x = true → te env1 s = .ok (f x) s)) → lcGo chk g tt te env xs s = .ok ((xs.filter b).map f) s
  | [], _ => by unfold lcGo; rw [if_pos hc]; rfl
  | x :: xs, h => by
    obtain ⟨env1, h1, h2, h3⟩ := h x List.mem_cons_self
    have ih := lc_pure hc (xs := xs) fun y hy => h y (List.mem_cons_of_mem _ hy)
    unfold lcGo
    rw [if_pos hc, h1, R.bind_ok, h2, R.bind_ok]
    by_cases hb : b x = true
    · rw [if_pos hb, h3 hb, R.bind_ok, ih, List.filter_cons_of_pos hb]
      rfl
    · rw [if_neg hb, ih, List.filter_cons_of_neg hb]
/-- the same over typed items -/
theorem lc_map {α : Type} {chk : S → Bool} {g : D → Fr → S → R Fr} {tt : Fr → S → R Bool} {te : Fr → S → R D} {env : Fr} {s : S} (hc : chk s = true) (e : α → D) (b : α → Bool) (f : α → D) : ∀ {xs : List α},
    (∀ x ∈ xs, ∃ env1, g (e x) env s = .ok env1 s ∧ tt env1 s = .ok (b x) s ∧ (b x = true → te env1 s = .ok (f x) s)) → lcGo chk g tt te env (xs.map e) s = .ok ((xs.filter b).map f) s
  | [], _ => by unfold lcGo; simp [hc]
  | x :: xs, h => by
    obtain ⟨env1, h1, h2, h3⟩ := h x List.mem_cons_self
    have ih := lc_map hc e b f (xs := xs) fun y hy => h y (List.mem_cons_of_mem _ hy)
    rw [List.map_cons]
    unfold lcGo
    rw [if_pos hc, h1, R.bind_ok, h2, R.bind_ok]
    by_cases hb : b x = true
    · rw [if_pos hb, h3 hb, R.bind_ok, ih, List.filter_cons_of_pos hb]
      rfl
    · rw [if_neg hb, ih, List.filter_cons_of_neg hb]
theorem noex_ok' {α : Type} {a : α} {s : S} : noex (.ok a s) = .ok a s := id rfl
/-! ### data of a Lean type -/
class Enc (α : Type) [DecidableEq α] extends Datum α where
  enc : α → D
  py_enc : ∀ (s : S) (n : Nat) (a : α), depth < n → py n s (enc a) = some (toD a)
  lay : ∀ a, (toD a).canLay0 = true
instance : Enc Int where
  enc := .int
  py_enc s n a h := by cases n with | zero => omega | succ n => rfl
  lay _ := rfl
instance : Enc Bool where
  enc := .bl
  py_enc s n a h := by cases n with | zero => omega | succ n => rfl
  lay _ := rfl
instance : Enc Unit where
  enc _ := .non
  py_enc s n a h := by cases n with | zero => omega | succ n => rfl
  lay _ := rfl
section
variable {α β : Type} [DecidableEq α] [Enc α] [DecidableEq β] [Enc β]
theorem enc_all {s : S} {n : Nat} (h : Datum.depth α < n) : ∀ xs : List α, (xs.map Enc.enc).mapM (py n s) = some (xs.map Datum.toD)
  | [] => rfl
  | x :: xs => by
    rw [List.map_cons, List.mapM_cons, Enc.py_enc s n x h, enc_all h xs]
    rfl
theorem lay_all : ∀ xs : List α, PyData.canLayAll0 (xs.map Datum.toD) = true
  | [] => rfl
  | x :: xs => by
    rw [List.map_cons, PyData.canLayAll0, Enc.lay x, lay_all xs]
    rfl
instance : Enc (List α) where
  enc xs := .lst (xs.map Enc.enc)
  py_enc s n a h := by
    cases n with
    | zero => omega
    | succ n =>
      show ((a.map Enc.enc).mapM (py n s)).map PyData.list = _
      rw [enc_all (Nat.lt_of_succ_lt_succ h) a]
      rfl
  lay xs := by simp only [Datum.toD, PyData.canLay0]; exact lay_all xs
instance : Enc (Tup α) where
  enc xs := .tup (xs.items.map Enc.enc)
  py_enc s n a h := by
    cases n with
    | zero => omega
    | succ n =>
      show ((a.items.map Enc.enc).mapM (py n s)).map PyData.tuple = _
      rw [enc_all (Nat.lt_of_succ_lt_succ h) a.items]
      rfl
  lay xs := by simp only [Datum.toD, PyData.canLay0]; exact lay_all xs.items
instance : Enc (α × β) where
  enc p := .tup [Enc.enc p.1, Enc.enc p.2]
  py_enc s n a h := by
    cases n with
    | zero => omega
    | succ n =>
      have h1 : max (Datum.depth α) (Datum.depth β) < n := Nat.lt_of_succ_lt_succ h
      show (([Enc.enc a.1, Enc.enc a.2] : List D).mapM (py n s)).map PyData.tuple = _
      rw [List.mapM_cons, List.mapM_cons, Enc.py_enc s n a.1 (by omega), Enc.py_enc s n a.2 (by omega)]
      rfl
  lay p := by simp only [Datum.toD, PyData.canLay0, PyData.canLayAll0, Enc.lay, Bool.and_self]
theorem shaped_enc (h : Datum.depth α < 40) (a : α) : SeqAt.shaped (Datum.toD a) = true := by
  unfold SeqAt.shaped
  rw [Enc.lay a, Bool.true_and, decide_eq_true_eq]
  exact Nat.le_trans (Datum.depth_le a) (by omega)
theorem pyD_enc {s : S} (h : Datum.depth α < 40) (a : α) : pyD s (Enc.enc a) = some (Datum.toD a) := Enc.py_enc s 40 a h
theorem eq_enc (h : Datum.depth α < 40) (a b : α) (s : S) : eqOp (Enc.enc a) (Enc.enc b) s = .ok (.bl (decide (a = b))) s := by
  unfold eqOp dataOp eqF
  rw [pyD_enc h a, pyD_enc h b]
  dsimp only
  rw [shaped_enc h a, shaped_enc h b, Datum.eqv]
  rfl
theorem ne_enc (h : Datum.depth α < 40) (a b : α) (s : S) : neOp (Enc.enc a) (Enc.enc b) s = .ok (.bl (!decide (a = b))) s := by
  unfold neOp dataOp neF
  rw [pyD_enc h a, pyD_enc h b]
  dsimp only
  rw [shaped_enc h a, shaped_enc h b, Datum.eqv]
  rfl
theorem inF_enc (h : Datum.depth α < 39) (neg : Bool) (a : α) (xs : List α) (t : Bool) : inF neg (Datum.toD a) (if t then .tuple (xs.map Datum.toD) else .list (xs.map Datum.toD)) = some (if neg then !decide (a ∈ xs) else decide (a ∈ xs)) := by
  have h1 := shaped_enc (α := α) (by omega) a
  have h2 : SeqAt.shaped (.tuple (xs.map (Datum.toD (α := α)))) = true := shaped_enc (α := Tup α) (by show Datum.depth α + 1 < 40; omega) ⟨xs⟩
  have h3 : SeqAt.shaped (.list (xs.map (Datum.toD (α := α)))) = true := shaped_enc (α := List α) (by show Datum.depth α + 1 < 40; omega) xs
  unfold inF
  cases t <;> simp only [seqOf, h1, h2, h3, Bool.and_self, if_true, Bool.false_eq_true, if_false] <;> (first | rw [any_datum xs a] | skip) <;> cases neg <;> rfl
theorem in_tup (h : Datum.depth α < 39) (a : α) (xs : List α) (s : S) : inOp (Enc.enc a) (.tup (xs.map Enc.enc)) s = .ok (.bl (decide (a ∈ xs))) s := by
  have e := inF_enc h false a xs true
  unfold inOp dataOp
  rw [pyD_enc (by omega) a]
  have q : pyD s (.tup (xs.map Enc.enc)) = some (.tuple (xs.map Datum.toD)) := Enc.py_enc (α := Tup α) s 40 ⟨xs⟩ (by show Datum.depth α + 1 < 40; omega)
  rw [q]
  dsimp only
  have e' : inF false (Datum.toD a) (.tuple (xs.map Datum.toD)) = some (decide (a ∈ xs)) := e
  rw [e']
theorem in_lst (h : Datum.depth α < 39) (a : α) (xs : List α) (s : S) : inOp (Enc.enc a) (.lst (xs.map Enc.enc)) s = .ok (.bl (decide (a ∈ xs))) s := by
  have e := inF_enc h false a xs false
  unfold inOp dataOp
  rw [pyD_enc (by omega) a]
  have q : pyD s (.lst (xs.map Enc.enc)) = some (.list (xs.map Datum.toD)) := Enc.py_enc (α := List α) s 40 xs (by show Datum.depth α + 1 < 40; omega)
  rw [q]
  dsimp only
  have e' : inF false (Datum.toD a) (.list (xs.map Datum.toD)) = some (decide (a ∈ xs)) := e
  rw [e']
theorem notIn_tup (h : Datum.depth α < 39) (a : α) (xs : List α) (s : S) : notInOp (Enc.enc a) (.tup (xs.map Enc.enc)) s = .ok (.bl (!decide (a ∈ xs))) s := by
  have e := inF_enc h true a xs true
  unfold notInOp dataOp
  rw [pyD_enc (by omega) a]
  have q : pyD s (.tup (xs.map Enc.enc)) = some (.tuple (xs.map Datum.toD)) := Enc.py_enc (α := Tup α) s 40 ⟨xs⟩ (by show Datum.depth α + 1 < 40; omega)
  rw [q]
  dsimp only
  have e' : inF true (Datum.toD a) (.tuple (xs.map Datum.toD)) = some (!decide (a ∈ xs)) := e
  rw [e']
theorem notIn_lst (h : Datum.depth α < 39) (a : α) (xs : List α) (s : S) : notInOp (Enc.enc a) (.lst (xs.map Enc.enc)) s = .ok (.bl (!decide (a ∈ xs))) s := by
  have e := inF_enc h true a xs false
  unfold notInOp dataOp
  rw [pyD_enc (by omega) a]
  have q : pyD s (.lst (xs.map Enc.enc)) = some (.list (xs.map Datum.toD)) := Enc.py_enc (α := List α) s 40 xs (by show Datum.depth α + 1 < 40; omega)
  rw [q]
  dsimp only
  have e' : inF true (Datum.toD a) (.list (xs.map Datum.toD)) = some (!decide (a ∈ xs)) := e
  rw [e']
end
/-! ### numbers -/
section
variable {s : S} {i j : Int} {mk : List D → S → R D}
theorem eq_ii : eqOp (.int i) (.int j) s = .ok (.bl (decide (i = j))) s := eq_enc (α := Int) (by decide) i j s
theorem ne_ii : neOp (.int i) (.int j) s = .ok (.bl (!decide (i = j))) s := ne_enc (α := Int) (by decide) i j s
theorem ord_ii {f : PyData → PyData → Bool} : dataOp (ordF f) (.int i) (.int j) s = .ok (.bl (f (.int i) (.int j))) s := id rfl
theorem lt_ii : ltOp (.int i) (.int j) s = .ok (.bl (decide (i < j))) s := by
  unfold ltOp
  rw [ord_ii, dataLt_int]
theorem gt_ii : gtOp (.int i) (.int j) s = .ok (.bl (decide (j < i))) s := by
  unfold gtOp
  rw [ord_ii, dataLt_int]
theorem le_ii : leOp (.int i) (.int j) s = .ok (.bl (decide (i ≤ j))) s := by
  unfold leOp
  rw [ord_ii, dataLt_int, not_lt_int]
theorem ge_ii : geOp (.int i) (.int j) s = .ok (.bl (decide (j ≤ i))) s := by
  unfold geOp
  rw [ord_ii, dataLt_int, not_lt_int]
theorem add_ii : addOp mk (.int i) (.int j) s = .ok (.int (i + j)) s := id rfl
theorem sub_ii : subOp (.int i) (.int j) s = .ok (.int (i - j)) s := id rfl
theorem mul_ii (h : i.natAbs.log2 + j.natAbs.log2 < 1000000) : mulOp mk (.int i) (.int j) s = .ok (.int (i * j)) s := if_pos h
theorem div_ii (h : 0 < j) (h2 : j.natAbs.log2 < 9000) : divOp (.int i) (.int j) s = .ok (.int (i / j)) s := if_pos (decide_eq_true ⟨h, h2⟩)
theorem mod_ii (h : 0 < j) : modOp (.int i) (.int j) s = .ok (.int (i % j)) s := if_pos (decide_eq_true h)
theorem pow_ii (h : 0 ≤ j ∧ j ≤ 1000000 ∧ i.natAbs < 2 ^ 64 := by decide) : powOp (.int i) (.int j) s = .ok (.int (i ^ j.toNat)) s := if_pos (decide_eq_true h)
theorem shl_ii (h : 0 ≤ j ∧ j ≤ 1000000 ∧ i.natAbs < 2 ^ 64) : shlOp (.int i) (.int j) s = .ok (.int (i * 2 ^ j.toNat)) s := if_pos (decide_eq_true h)
theorem shr_ii (h : 0 ≤ j) : shrOp (.int i) (.int j) s = .ok (.int (i / 2 ^ j.toNat)) s := if_pos (decide_eq_true h)
theorem and_ii : bandOp (.int i) (.int j) s = .ok (.int (Builtin.bitAnd i j)) s := id rfl
theorem or_ii : borOp (.int i) (.int j) s = .ok (.int (Builtin.bitOr i j)) s := id rfl
theorem xor_ii : bxorOp (.int i) (.int j) s = .ok (.int (Builtin.bitXor i j)) s := id rfl
theorem neg_i : negOp (.int i) s = .ok (.int (-i)) s := id rfl
theorem int1_i : int1 [.int i] s = .ok (.int i) s := id rfl
theorem log2_lt {i : Int} {n : Nat} (h : i.natAbs < 2 ^ n) (hn : 0 < n) : i.natAbs.log2 < n := by
  by_cases z : i.natAbs = 0
  · rw [z]
    simpa using hn
  · exact (Nat.log2_lt z).mpr h
end
/-! ### sequences -/
section
variable {s : S} {mk : List D → S → R D} {xs ys : List D} {i : Int}
theorem asQ_tup : asQ (.tup xs) s = some xs := id rfl
theorem asQ_lst : asQ (.lst xs) s = some xs := id rfl
theorem asQ_scr : asQ (.scr xs) s = some xs := id rfl
theorem asQ_ref {i : Nat} (h : s[i]? = some (.lst xs)) : asQ (.ref i) s = some xs := by
  unfold asQ
  dsimp only
  rw [h]
theorem asL_lst : asL (.lst xs) s = some xs := id rfl
theorem asL_ref {i : Nat} (h : s[i]? = some (.lst xs)) : asL (.ref i) s = some xs := by
  unfold asL
  dsimp only
  rw [h]
theorem asM_ref {i : Nat} (h : s[i]? = some (.lst xs)) : asM (.ref i) s = some (i, xs) := by
  unfold asM
  dsimp only
  rw [h]
theorem len_tup : lenOp [.tup xs] s = .ok (.int xs.length) s := id rfl
theorem len_lst : lenOp [.lst xs] s = .ok (.int xs.length) s := id rfl
theorem len_scr : lenOp [.scr xs] s = .ok (.int xs.length) s := id rfl
theorem len_ref {i : Nat} (h : s[i]? = some (.lst xs)) : lenOp [.ref i] s = .ok (.int xs.length) s := by
  show seq1 _ [.ref i] s = _
  unfold seq1
  dsimp only
  rw [asQ_ref h]
theorem tuple_lst (h : xs.length ≤ sizeLine) : tupleOp [.lst xs] s = .ok (.tup xs) s := mkT_e h
theorem tuple_ref {i : Nat} (h : s[i]? = some (.lst xs)) (hl : xs.length ≤ sizeLine) : tupleOp [.ref i] s = .ok (.tup xs) s := by
  show seq1 _ [.ref i] s = _
  unfold seq1
  dsimp only
  rw [asQ_ref h]
  exact mkT_e hl
theorem iter_tup : iterD (.tup xs) s = .ok ⟨xs, fun _ => true⟩ s := id rfl
theorem iter_lst : iterD (.lst xs) s = .ok ⟨xs, fun _ => true⟩ s := id rfl
theorem iter_scr : iterD (.scr xs) s = .ok ⟨xs, fun _ => true⟩ s := id rfl
theorem iter_ref {i : Nat} (h : s[i]? = some (.lst xs)) : iterD (.ref i) s = .ok ⟨xs, fun s' => decide (s'[i]? = some (.lst xs))⟩ s := by
  unfold iterD
  rw [asQ_ref h]
theorem app_ref {i : Nat} {d : D} (h : s[i]? = some (.lst xs)) (hl : xs.length < sizeLine) : appOp (.ref i) [d] s = .ok .non (s.set i (.lst (xs ++ [d]))) := by
  unfold appOp
  rw [asM_ref h]
  exact if_pos hl
theorem atN {α : Type} {l : List α} {k : Nat} : L2.atI l (k : Int) = l[k]? := by
  unfold L2.atI L2.ixN
  rw [if_pos (Int.natCast_nonneg k)]
  split
  · rfl
  · rename_i h
    rw [List.getElem?_eq_none (by omega)]
    rfl
theorem atI_pos {α : Type} {l : List α} {i : Int} (h : 0 ≤ i) : L2.atI l i = l[i.toNat]? := by
  obtain ⟨k, rfl⟩ := Int.eq_ofNat_of_zero_le h
  rw [atN]
  rfl
theorem ix_q {x d : D} (hx : ∀ z, x ≠ .str z) (h : asQ x s = some xs) (hd : L2.atI xs i = some d) : ixOp x (.int i) s = .ok d s := by
  unfold ixOp
  dsimp only
  split
  · rename_i z
    exact absurd rfl (hx z)
  · rw [h]
    dsimp only
    rw [hd]
theorem ix_tup {d : D} (hd : L2.atI xs i = some d) : ixOp (.tup xs) (.int i) s = .ok d s := ix_q (fun _ h => by cases h) rfl hd
theorem ix_lst {d : D} (hd : L2.atI xs i = some d) : ixOp (.lst xs) (.int i) s = .ok d s := ix_q (fun _ h => by cases h) rfl hd
theorem ix_scr {d : D} (hd : L2.atI xs i = some d) : ixOp (.scr xs) (.int i) s = .ok d s := ix_q (fun _ h => by cases h) rfl hd
theorem ix_ref {k : Nat} {d : D} (h : s[k]? = some (.lst xs)) (hd : L2.atI xs i = some d) : ixOp (.ref k) (.int i) s = .ok d s := ix_q (fun _ h => by cases h) (asQ_ref h) hd
theorem set_ref {k j : Nat} {d : D} (h : s[k]? = some (.lst xs)) (hj : j < xs.length) : setOp (.ref k) (.int (j : Nat)) d s = .ok () (s.set k (.lst (xs.set j d))) := by
  unfold setOp
  rw [asM_ref h]
  dsimp only
  have : L2.ixN xs.length (j : Int) = some j := by
    unfold L2.ixN
    rw [if_pos (Int.natCast_nonneg j), if_pos (by omega)]
    rfl
  rw [this]
end
end Mi

set_option Elab.async false
set_option linter.all false
set_option maxRecDepth 100000
/-! More plain reckoning: kinds, folds, ranges, bits. -/
namespace Mi
open PySem PySem.W
section
variable {s : S} {x : D} {t n : String} {b : Bool}
theorem mkT_0 : mkT [] s = .ok (.tup []) s := mkT_e small
theorem mkT_1 {a : D} : mkT [a] s = .ok (.tup [a]) s := mkT_e small
theorem mkT_2 {a b : D} : mkT [a, b] s = .ok (.tup [a, b]) s := mkT_e small
theorem mkT_3 {a b c : D} : mkT [a, b, c] s = .ok (.tup [a, b, c]) s := mkT_e small
theorem mkT_4 {a b c d : D} : mkT [a, b, c, d] s = .ok (.tup [a, b, c, d]) s := mkT_e small
theorem mkT_5 {a b c d e : D} : mkT [a, b, c, d, e] s = .ok (.tup [a, b, c, d, e]) s := mkT_e small
theorem mkT_6 {a b c d e f : D} : mkT [a, b, c, d, e, f] s = .ok (.tup [a, b, c, d, e, f]) s := mkT_e small
theorem mkT_7 {a b c d e f g : D} : mkT [a, b, c, d, e, f, g] s = .ok (.tup [a, b, c, d, e, f, g]) s := mkT_e small
theorem mkT_8 {a b c d e f g h : D} : mkT [a, b, c, d, e, f, g, h] s = .ok (.tup [a, b, c, d, e, f, g, h]) s := mkT_e small
theorem mkT_9 {a b c d e f g h i : D} : mkT [a, b, c, d, e, f, g, h, i] s = .ok (.tup [a, b, c, d, e, f, g, h, i]) s := mkT_e small
theorem mkT_10 {a b c d e f g h i j : D} : mkT [a, b, c, d, e, f, g, h, i, j] s = .ok (.tup [a, b, c, d, e, f, g, h, i, j]) s := mkT_e small
theorem mkF_0 : mkF [] s = .ok (.lst []) s := mkF_e small
theorem mkF_1 {a : D} : mkF [a] s = .ok (.lst [a]) s := mkF_e small
theorem mkF_2 {a b : D} : mkF [a, b] s = .ok (.lst [a, b]) s := mkF_e small
theorem mkF_3 {a b c : D} : mkF [a, b, c] s = .ok (.lst [a, b, c]) s := mkF_e small
theorem mkF_4 {a b c d : D} : mkF [a, b, c, d] s = .ok (.lst [a, b, c, d]) s := mkF_e small
theorem mkF_5 {a b c d e : D} : mkF [a, b, c, d, e] s = .ok (.lst [a, b, c, d, e]) s := mkF_e small
theorem mkF_6 {a b c d e f : D} : mkF [a, b, c, d, e, f] s = .ok (.lst [a, b, c, d, e, f]) s := mkF_e small
theorem mkF_7 {a b c d e f g : D} : mkF [a, b, c, d, e, f, g] s = .ok (.lst [a, b, c, d, e, f, g]) s := mkF_e small
theorem mkF_8 {a b c d e f g h : D} : mkF [a, b, c, d, e, f, g, h] s = .ok (.lst [a, b, c, d, e, f, g, h]) s := mkF_e small
theorem mkF_9 {a b c d e f g h i : D} : mkF [a, b, c, d, e, f, g, h, i] s = .ok (.lst [a, b, c, d, e, f, g, h, i]) s := mkF_e small
theorem mkF_10 {a b c d e f g h i j : D} : mkF [a, b, c, d, e, f, g, h, i, j] s = .ok (.lst [a, b, c, d, e, f, g, h, i, j]) s := mkF_e small
theorem mkC_0 : mkC [] s = .ok (.ref s.length) (s ++ [.lst []]) := mkC_e small
theorem mkC_1 {a : D} : mkC [a] s = .ok (.ref s.length) (s ++ [.lst [a]]) := mkC_e small
theorem mkC_2 {a b : D} : mkC [a, b] s = .ok (.ref s.length) (s ++ [.lst [a, b]]) := mkC_e small
theorem mkC_3 {a b c : D} : mkC [a, b, c] s = .ok (.ref s.length) (s ++ [.lst [a, b, c]]) := mkC_e small
theorem mkC_4 {a b c d : D} : mkC [a, b, c, d] s = .ok (.ref s.length) (s ++ [.lst [a, b, c, d]]) := mkC_e small
theorem mkC_5 {a b c d e : D} : mkC [a, b, c, d, e] s = .ok (.ref s.length) (s ++ [.lst [a, b, c, d, e]]) := mkC_e small
theorem mkC_6 {a b c d e f : D} : mkC [a, b, c, d, e, f] s = .ok (.ref s.length) (s ++ [.lst [a, b, c, d, e, f]]) := mkC_e small
theorem mkC_7 {a b c d e f g : D} : mkC [a, b, c, d, e, f, g] s = .ok (.ref s.length) (s ++ [.lst [a, b, c, d, e, f, g]]) := mkC_e small
theorem mkC_8 {a b c d e f g h : D} : mkC [a, b, c, d, e, f, g, h] s = .ok (.ref s.length) (s ++ [.lst [a, b, c, d, e, f, g, h]]) := mkC_e small
theorem mkC_9 {a b c d e f g h i : D} : mkC [a, b, c, d, e, f, g, h, i] s = .ok (.ref s.length) (s ++ [.lst [a, b, c, d, e, f, g, h, i]]) := mkC_e small
theorem mkC_10 {a b c d e f g h i j : D} : mkC [a, b, c, d, e, f, g, h, i, j] s = .ok (.ref s.length) (s ++ [.lst [a, b, c, d, e, f, g, h, i, j]]) := mkC_e small
theorem isi_ty {sub : Ty1 → D → Option Bool} (h : tyD x s = some (.b t)) (hb : sub (.b t) (.ty n) = some b) : isiM sub [x, .ty n] s = .ok (.bl b) s := by
  show isiOp sub [x, .ty n] s = _
  unfold isiOp
  dsimp only
  rw [h]
  dsimp only
  rw [hb]
theorem isi_tys {sub : Ty1 → D → Option Bool} {c : D} {cs : List D} (h : tyD x s = some (.b t)) (hb : anySub sub (.b t) (c :: cs) = some b) : isiM sub [x, .tup (c :: cs)] s = .ok (.bl b) s := by
  show isiOp sub [x, .tup (c :: cs)] s = _
  unfold isiOp
  dsimp only
  rw [h]
  dsimp only
  rw [hb]
theorem ty_tup {xs : List D} : tyD (.tup xs) s = some (.b "tuple") := id rfl
theorem ty_lst {xs : List D} : tyD (.lst xs) s = some (.b "list") := id rfl
theorem ty_int {i : Int} : tyD (.int i) s = some (.b "int") := id rfl
theorem ty_bl {i : Bool} : tyD (.bl i) s = some (.b "bool") := id rfl
theorem ty_str {i : Str} : tyD (.str i) s = some (.b "str") := id rfl
theorem ty_non : tyD .non s = some (.b "NoneType") := id rfl
theorem ty_ref {i : Nat} {xs : List D} (h : s[i]? = some (.lst xs)) : tyD (.ref i) s = some (.b "list") := by
  unfold tyD
  dsimp only
  rw [h]
theorem eq_bb {a b : Bool} : eqOp (.bl a) (.bl b) s = .ok (.bl (decide (a = b))) s := eq_enc (α := Bool) (by decide) a b s
theorem ne_bb {a b : Bool} : neOp (.bl a) (.bl b) s = .ok (.bl (!decide (a = b))) s := ne_enc (α := Bool) (by decide) a b s
theorem mapM_bl : ∀ bs : List Bool, (bs.map D.bl).mapM asBl = some bs
  | [] => rfl
  | b :: bs => by
    rw [List.map_cons, List.mapM_cons, mapM_bl bs]
    rfl
theorem mapM_int : ∀ bs : List Int, (bs.map D.int).mapM asI = some bs
  | [] => rfl
  | b :: bs => by
    rw [List.map_cons, List.mapM_cons, mapM_int bs]
    rfl
theorem mapM_asInt : ∀ bs : List Int, (bs.map D.int).mapM asInt = some bs
  | [] => rfl
  | b :: bs => by
    rw [List.map_cons, List.mapM_cons, mapM_asInt bs]
    rfl
theorem fold_lst {α : Type} {as : D → Option α} {f : List α → Option D} {xs : List D} {ns : List α} {d : D} (h : xs.mapM as = some ns) (hf : f ns = some d) : fold1 as f [.lst xs] s = .ok d s := by
  unfold fold1 seq1
  dsimp only [asQ]
  rw [h]
  dsimp only
  rw [hf]
theorem all_lst (bs : List Bool) : allOp [.lst (bs.map .bl)] s = .ok (.bl (bs.all id)) s := fold_lst (mapM_bl bs) rfl
theorem any_lst (bs : List Bool) : anyOp [.lst (bs.map .bl)] s = .ok (.bl (bs.any id)) s := fold_lst (mapM_bl bs) rfl
theorem sum_lst (ns : List Int) : sumOp [.lst (ns.map .int)] s = .ok (.int ns.sum) s := fold_lst (mapM_int ns) rfl
theorem all_map {α : Type} (xs : List α) (f : α → Bool) : allOp [.lst (xs.map fun x => .bl (f x))] s = .ok (.bl (xs.all f)) s := by
  have := all_lst (s := s) (xs.map f)
  rw [List.map_map] at this
  rw [show (fun x => D.bl (f x)) = D.bl ∘ f from rfl, this, List.all_map]
  rfl
theorem any_map {α : Type} (xs : List α) (f : α → Bool) : anyOp [.lst (xs.map fun x => .bl (f x))] s = .ok (.bl (xs.any f)) s := by
  have := any_lst (s := s) (xs.map f)
  rw [List.map_map] at this
  rw [show (fun x => D.bl (f x)) = D.bl ∘ f from rfl, this, List.any_map]
  rfl
theorem range_nat (n : Nat) : rangeD 0 (n : Int) = (List.range n).map fun k => .int (k : Nat) := by
  unfold rangeD
  rw [show ((n : Int) - 0).toNat = n by omega]
  refine List.map_congr_left fun k _ => ?_
  rw [Int.zero_add]
theorem range_int (n : Int) : rangeD 0 n = (List.range n.toNat).map fun k => .int (k : Nat) := by
  unfold rangeD
  rw [show (n - 0).toNat = n.toNat by omega]
  refine List.map_congr_left fun k _ => ?_
  rw [Int.zero_add]
theorem range_len {α : Type} (xs : List α) : rangeD 0 (xs.length : Int) = (List.range xs.length).map fun k => .int (k : Nat) := range_nat _
/-- equal, place by place -/
theorem all_places {α : Type} [DecidableEq α] {as bs : List α} (h : as.length = bs.length) : ((List.range bs.length).all fun k => decide (as[k]? = bs[k]?)) = decide (as = bs) := by
  rw [Bool.eq_iff_iff, List.all_eq_true, decide_eq_true_iff]
  constructor
  · intro q
    refine List.ext_getElem? fun k => ?_
    by_cases hk : k < bs.length
    · exact of_decide_eq_true (q k (List.mem_range.mpr hk))
    · rw [List.getElem?_eq_none (by omega), List.getElem?_eq_none (by omega)]
  · rintro rfl k _
    exact decide_eq_true rfl
theorem lc_map1 {α : Type} {chk : S → Bool} {g : D → Fr → S → R Fr} {te : Fr → S → R D} {env : Fr} (hc : chk s = true) (e : α → D) (f : α → D) {xs : List α}
    (h : ∀ x ∈ xs, ∃ env1, g (e x) env s = .ok env1 s ∧ te env1 s = .ok (f x) s) : lcGo chk g yesM te env (xs.map e) s = .ok (xs.map f) s := by
  have := lc_map hc e (fun _ => true) f (tt := yesM) (te := te) (g := g) (env := env) (xs := xs) fun x hx => by
    obtain ⟨env1, h1, h2⟩ := h x hx
    exact ⟨env1, h1, rfl, fun _ => h2⟩
  rw [this, List.filter_eq_self.mpr fun _ _ => rfl]
/-! ### whole numbers in sequences -/
theorem in_it (a : Int) (xs : List Int) : inOp (.int a) (.tup (xs.map .int)) s = .ok (.bl (decide (a ∈ xs))) s := in_tup (α := Int) (by decide) a xs s
theorem in_il (a : Int) (xs : List Int) : inOp (.int a) (.lst (xs.map .int)) s = .ok (.bl (decide (a ∈ xs))) s := in_lst (α := Int) (by decide) a xs s
theorem notIn_it (a : Int) (xs : List Int) : notInOp (.int a) (.tup (xs.map .int)) s = .ok (.bl (!decide (a ∈ xs))) s := notIn_tup (α := Int) (by decide) a xs s
theorem notIn_il (a : Int) (xs : List Int) : notInOp (.int a) (.lst (xs.map .int)) s = .ok (.bl (!decide (a ∈ xs))) s := notIn_lst (α := Int) (by decide) a xs s
theorem eq_tt (xs ys : List Int) : eqOp (.tup (xs.map .int)) (.tup (ys.map .int)) s = .ok (.bl (decide (xs = ys))) s := by
  have h := eq_enc (α := Tup Int) (by decide) ⟨xs⟩ ⟨ys⟩ s
  rw [show (decide (xs = ys)) = decide ((⟨xs⟩ : Tup Int) = ⟨ys⟩) from decide_eq_decide.mpr ⟨fun e => by rw [e], fun e => by injection e⟩]
  exact h
theorem mapM_py : ∀ ns : List Int, (ns.map D.int).mapM (pyD s) = some (ns.map PyData.int)
  | [] => rfl
  | n :: ns => by
    rw [List.map_cons, List.mapM_cons, mapM_py ns]
    rfl
theorem sortOk_ints (ns : List Int) : sortOk (ns.map PyData.int) = true := by
  unfold sortOk
  rw [Bool.and_eq_true, Bool.and_eq_true, Bool.or_eq_true]
  refine ⟨⟨?_, ?_⟩, .inr ?_⟩
  · rw [List.all_eq_true]
    intro d hd
    rw [List.all_eq_true]
    intro e he
    obtain ⟨a, _, rfl⟩ := List.mem_map.mp hd
    obtain ⟨b, _, rfl⟩ := List.mem_map.mp he
    rfl
  · rw [List.all_eq_true]
    intro d hd
    obtain ⟨a, _, rfl⟩ := List.mem_map.mp hd
    rfl
  · rw [List.all_eq_true]
    intro d hd
    obtain ⟨a, _, rfl⟩ := List.mem_map.mp hd
    rfl
theorem zip_ints : ∀ ns : List Int, (ns.map D.int).zip (ns.map PyData.int) = ns.map fun n => (D.int n, PyData.int n)
  | [] => rfl
  | n :: ns => by
    rw [List.map_cons, List.map_cons, List.zip_cons_cons, zip_ints ns]
    rfl
def sortL (ns : List Int) : List Int := ns.mergeSort fun a b => decide (a ≤ b)
theorem sort_zip (ns : List Int) : (((ns.map D.int).zip (ns.map PyData.int)).mergeSort lePy).map (·.1) = (sortL ns).map .int := by
  rw [zip_ints, ← List.map_mergeSort (r := fun a b => decide (a ≤ b)), List.map_map]
  · rfl
  · intro a _ b _
    unfold lePy
    rw [dataLt_int, not_lt_int]
theorem sort_lst {mk : List D → S → R D} (ns : List Int) : sortOp mk [.lst (ns.map .int)] s = mk ((sortL ns).map .int) s := by
  unfold sortOp
  dsimp only [asQ]
  rw [mapM_py]
  dsimp only
  rw [sortOk_ints, if_pos rfl, sort_zip]
theorem sort_ref {mk : List D → S → R D} {i : Nat} (ns : List Int) (h : s[i]? = some (.lst (ns.map .int))) : sortOp mk [.ref i] s = mk ((sortL ns).map .int) s := by
  unfold sortOp
  dsimp only
  rw [asQ_ref h]
  dsimp only
  rw [mapM_py]
  dsimp only
  rw [sortOk_ints, if_pos rfl, sort_zip]
theorem sortL_perm (ns : List Int) : (sortL ns).Perm ns := List.mergeSort_perm ns _
theorem mem_sortL {k : Int} {ns : List Int} : k ∈ sortL ns ↔ k ∈ ns := (sortL_perm ns).mem_iff
theorem sortL_le (ns : List Int) : (sortL ns).Pairwise (· ≤ ·) := by
  have := List.pairwise_mergeSort (le := fun a b : Int => decide (a ≤ b)) (fun a b c h1 h2 => by simp only [decide_eq_true_eq] at *; omega) (fun a b => by simp only [Bool.or_eq_true, decide_eq_true_eq]; omega) ns
  exact this.imp fun h => of_decide_eq_true h
/-- no number twice: ascending -/
theorem sortL_lt {ns : List Int} (h : ns.Nodup) : (sortL ns).Pairwise (· < ·) := L2.lt_of_le_nodup _ (sortL_le ns) ((sortL_perm ns).nodup_iff.mpr h)
theorem asc_nodup {ns : List Int} (h : ns.Pairwise (· < ·)) : ns.Nodup := h.imp fun h => by omega
theorem asc_filter {ns : List Int} (h : ns.Pairwise (· < ·)) (f : Int → Bool) : (ns.filter f).Pairwise (· < ·) := h.filter f
end
/-! ### a store behind a first part -/
section
variable {S0 rest : S} {k : Nat} {xs : List D} {d : D} {c : Cell} {mk : List D → S → R D}
theorem at_off : (S0 ++ rest)[S0.length + k]? = rest[k]? := by
  rw [List.getElem?_append_right (by omega)]
  congr 1
  omega
theorem set_off : (S0 ++ rest).set (S0.length + k) c = S0 ++ rest.set k c := by
  rw [List.set_append_right _ _ (by omega)]
  congr 2
  omega
theorem mkC_off {n : Nat} (h : rest.length = n) (hl : xs.length ≤ sizeLine) : mkC xs (S0 ++ rest) = .ok (.ref (S0.length + n)) (S0 ++ (rest ++ [.lst xs])) := by
  rw [mkC_e hl, List.length_append, h, List.append_assoc]
theorem asQ_off (h : rest[k]? = some (.lst xs)) : asQ (.ref (S0.length + k)) (S0 ++ rest) = some xs := asQ_ref (by rw [at_off]; exact h)
theorem asL_off (h : rest[k]? = some (.lst xs)) : asL (.ref (S0.length + k)) (S0 ++ rest) = some xs := asL_ref (by rw [at_off]; exact h)
theorem app_off (h : rest[k]? = some (.lst xs)) (hl : xs.length < sizeLine) : appOp (.ref (S0.length + k)) [d] (S0 ++ rest) = .ok .non (S0 ++ rest.set k (.lst (xs ++ [d]))) := by
  rw [app_ref (by rw [at_off]; exact h) hl, set_off]
theorem iter_off (h : rest[k]? = some (.lst xs)) : iterD (.ref (S0.length + k)) (S0 ++ rest) = .ok ⟨xs, fun s' => decide (s'[S0.length + k]? = some (.lst xs))⟩ (S0 ++ rest) := iter_ref (by rw [at_off]; exact h)
theorem tuple_off (h : rest[k]? = some (.lst xs)) (hl : xs.length ≤ sizeLine) : tupleOp [.ref (S0.length + k)] (S0 ++ rest) = .ok (.tup xs) (S0 ++ rest) := tuple_ref (by rw [at_off]; exact h) hl
theorem len_off (h : rest[k]? = some (.lst xs)) : lenOp [.ref (S0.length + k)] (S0 ++ rest) = .ok (.int xs.length) (S0 ++ rest) := len_ref (by rw [at_off]; exact h)
theorem ix_off {i : Int} (h : rest[k]? = some (.lst xs)) (hd : L2.atI xs i = some d) : ixOp (.ref (S0.length + k)) (.int i) (S0 ++ rest) = .ok d (S0 ++ rest) := ix_ref (by rw [at_off]; exact h) hd
theorem setS_off {ns : List Int} (h : rest[k]? = some (.lst (ns.map .int))) (hl : ns.length < 64) (hl2 : (sortU ns).length < 64) : setSort mk (.ref (S0.length + k)) (S0 ++ rest) = mk ((sortU ns).map .int) (S0 ++ rest) := by
  unfold setSort
  rw [asQ_off h]
  dsimp only
  rw [mapM_asInt]
  dsimp only
  rw [if_pos ⟨by omega, hl2⟩]
theorem insU_len {j : Int} : ∀ l : List Int, (insU j l).length ≤ l.length + 1
  | [] => by simp [insU]
  | x :: r => by
    unfold insU
    split
    · simp
    · split
      · simp
      · have := insU_len (j := j) r
        simp only [List.length_cons]
        omega
theorem sortU_len : ∀ l : List Int, (sortU l).length ≤ l.length
  | [] => Nat.le_refl _
  | x :: r => by
    have h1 := sortU_len r
    have h2 := insU_len (j := x) (sortU r)
    show (insU x (sortU r)).length ≤ _
    rw [List.length_cons]
    omega
/-! ### slices -/
theorem cut_to {α : Type} {xs : List D} (k : Nat) : cutD xs none (some (k : Int)) = xs.take k := by
  unfold cutD
  rw [HT.sIx_none, HT.sIx_nat, List.drop_zero, Nat.sub_zero]
  by_cases h : k ≤ xs.length
  · rw [Nat.min_eq_left h]
  · rw [Nat.min_eq_right (by omega), List.take_of_length_le (Nat.le_refl _), List.take_of_length_le (by omega)]
theorem slice_to {xs : List D} {s : S} {mk : List D → S → R D} (k : Nat) : slOp mk (.scr xs) none (some (k : Int)) s = mk (xs.take k) s := by
  show mk (cutD xs none (some (k : Int))) s = _
  rw [cut_to (α := Nat)]
theorem slice_lst_to {xs : List D} {s : S} {mk : List D → S → R D} (k : Nat) : slOp mk (.lst xs) none (some (k : Int)) s = mk (xs.take k) s := by
  show mk (cutD xs none (some (k : Int))) s = _
  rw [cut_to (α := Nat)]
end
end Mi

set_option Elab.async false
set_option linter.all false
set_option maxRecDepth 100000
set_option maxHeartbeats 0
namespace Lw
open PySem PySem.Spec PyProof.Rows L2 Mi
abbrev subZ := Mi.subB

abbrev top (i : Nat) : Stmt := PySem.Challenge.pw_thingwise_k02_middle.main.body.getD i (.Pass ⟨0, 0, 0, 0⟩)
/-! _law_draws_of -/
abbrev N__law_draws_of : List Str := ["cell"]
theorem nd__law_draws_of : N__law_draws_of.Nodup := by decide
def B__law_draws_of : Fr → S → T := (mSeq (mIfS (mB (mOp geOp (mVar 0) (mOp powOp (mC (.int 10)) (mC (.int 18))))) (mRet (mDisp mkC (mCons (mOp subOp (mVar 0) (mOp powOp (mC (.int 10)) (mC (.int 18)))) (mCons (mC (.int 0)) (mCons (mOp modOp (mCall (int1) (mCons (mVar 0) mNil)) (mC (.int 1000003))) mNil))))) mNext) (mRet (mDisp mkC (mCons (mC (.int 0)) (mCons (mC (.int 0)) (mCons (mOp modOp (mCall (int1) (mCons (mVar 0) mNil)) (mOp (addOp mkF) (mOp powOp (mC (.int 10)) (mC (.int 24))) (mC (.int 7)))) mNil))))))
def M__law_draws_of : List D → S → R D := (mFn 1 1 B__law_draws_of)
/-! _law_dip -/
abbrev N__law_dip : List Str := ["well", "upto", "count", "churn", "drawn"]
theorem nd__law_dip : N__law_dip.Nodup := by decide
def B__law_dip : Fr → S → T := (mSeq (mIfS (mB (mOp gtOp (mOp ixOp (mVar 0) (mC (.int 0))) (mC (.int 0)))) (mSeq (mSet 4 (mOp modOp (mCall (int1) (mCons (mOp ixOp (mVar 0) (mC (.int 0))) mNil)) (mVar 1))) (mSeq (mSetL (mVar 0) (mC (.int 0)) (mOp divOp (mOp ixOp (mVar 0) (mC (.int 0))) (mVar 1))) (mRet (mVar 4)))) mNext) (mSeq (mSetL (mVar 0) (mC (.int 1)) (mOp (addOp mkF) (mOp ixOp (mVar 0) (mC (.int 1))) (mC (.int 1)))) (mSeq (mSet 2 (mOp ixOp (mVar 0) (mC (.int 1)))) (mSeq (mSet 3 (mOp (addOp mkF) (mOp (mulOp mkF) (mOp (addOp mkF) (mOp ixOp (mVar 0) (mC (.int 2))) (mC (.int 1))) (mOp (addOp mkF) (mC (.int 48611)) (mOp (mulOp mkF) (mC (.int 2)) (mVar 2)))) (mOp (mulOp mkF) (mOp (mulOp mkF) (mC (.int 1299709)) (mVar 2)) (mVar 2)))) (mSeq (mSet 3 (mOp (mulOp mkF) (mOp modOp (mCall (int1) (mCons (mOp (mulOp mkF) (mVar 3) (mVar 3)) mNil)) (mC (.int 2305843009213693951))) (mC (.int 39916801)))) (mRet (mOp modOp (mCall (int1) (mCons (mOp divOp (mOp modOp (mCall (int1) (mCons (mVar 3) mNil)) (mC (.int 1000000000000000003))) (mC (.int 1024))) mNil)) (mVar 1))))))))
def M__law_dip : List D → S → R D := (mFn 2 5 B__law_dip)
/-! is_ascending -/
abbrev N_is_ascending : List Str := ["row", "k"]
theorem nd_is_ascending : N_is_ascending.Nodup := by decide
def is_ascending_e1 : Fr → S → R D := (mOp ltOp (mOp ixOp (mVar 0) (mVar 1)) (mOp ixOp (mVar 0) (mOp (addOp mkF) (mVar 1) (mC (.int 1)))))
def B_is_ascending : Fr → S → T := (mRet (mCall (allOp) (mCons (mLc mkF (rng1 (mOp subOp (mCall (lenOp) (mCons (mVar 0) mNil)) (mC (.int 1)))) [1] (.n 1) yesM is_ascending_e1) mNil)))
def M_is_ascending : List D → S → R D := (mFn 1 2 B_is_ascending)
/-! is_int -/
abbrev N_is_int : List Str := ["value"]
theorem nd_is_int : N_is_int.Nodup := by decide
def B_is_int : Fr → S → T := (mRet (mAndV (mCall (isiM subZ) (mCons (mVar 0) (mCons (mC (.ty "int")) mNil))) (mNotV (mCall (isiM subZ) (mCons (mVar 0) (mCons (mC (.ty "bool")) mNil))))))
def M_is_int : List D → S → R D := (mFn 1 1 B_is_int)
/-! is_lot -/
abbrev N_is_lot : List Str := ["value", "things", "thing"]
theorem nd_is_lot : N_is_lot.Nodup := by decide
def is_lot_e1 : Fr → S → R D := (mAndV (mCall M_is_int (mCons (mVar 2) mNil)) (mOp geOp (mVar 2) (mC (.int 0))))
def B_is_lot : Fr → S → T := (mSeq (mIfS (mOr (mNot (mB (mCall (isiM subZ) (mCons (mVar 0) (mCons (mC (.ty "tuple")) mNil))))) (mNot (mB (mCall (allOp) (mCons (mLc mkF (mIter (mVar 0)) [2] (.n 2) yesM is_lot_e1) mNil))))) (mRet (mC (.bl false))) mNext) (mRet (mAndV (mCall M_is_ascending (mCons (mVar 0) mNil)) (mOrV (mOp (isN false) (mVar 1) (mC .non)) (mOrV (mOp eqOp (mVar 0) (mDisp mkT mNil)) (mOp ltOp (mOp ixOp (mVar 0) (mUn negOp (mC (.int 1)))) (mVar 1)))))))
def M_is_lot : List D → S → R D := (mFn 2 3 B_is_lot)
/-! check_lot -/
abbrev N_check_lot : List Str := ["lot", "things"]
theorem nd_check_lot : N_check_lot.Nodup := by decide
def B_check_lot : Fr → S → T := (mIfS (mNot (mB (mCall M_is_lot (mCons (mVar 0) (mCons (mVar 1) mNil))))) (mRaise "InvalidLot") mNext)
def M_check_lot : List D → S → R D := (mFn 2 2 B_check_lot)
/-! raw_middle -/
abbrev N_raw_middle : List Str := ["one", "two", "three", "both", "thing"]
theorem nd_raw_middle : N_raw_middle.Nodup := by decide
def raw_middle_t1 : Fr → S → R Bool := (mOr (mB (mOp inOp (mVar 4) (mVar 1))) (mB (mOp inOp (mVar 4) (mVar 2))))
def raw_middle_t2 : Fr → S → R Bool := (mAnd (mB (mOp inOp (mVar 4) (mVar 2))) (mB (mOp notInOp (mVar 4) (mVar 0))))
def B_raw_middle : Fr → S → T := (mSeq (mSet 3 (mLc mkF (mIter (mVar 0)) [4] (.n 4) raw_middle_t1 (mVar 4))) (mRet (mCall (tupleOp) (mCons (mCall (sortOp mkF) (mCons (mOp (addOp mkF) (mVar 3) (mLc mkF (mIter (mVar 1)) [4] (.n 4) raw_middle_t2 (mVar 4))) mNil)) mNil))))
def M_raw_middle : List D → S → R D := (mFn 3 5 B_raw_middle)
/-! middle -/
abbrev N_middle : List Str := ["lot", "other_lot", "third_lot"]
theorem nd_middle : N_middle.Nodup := by decide
def B_middle : Fr → S → T := (mSeq (mExpr (mCall M_check_lot (mCons (mVar 0) (mCons (mC .non) mNil)))) (mSeq (mExpr (mCall M_check_lot (mCons (mVar 1) (mCons (mC .non) mNil)))) (mSeq (mExpr (mCall M_check_lot (mCons (mVar 2) (mCons (mC .non) mNil)))) (mRet (mCall M_raw_middle (mCons (mVar 0) (mCons (mVar 1) (mCons (mVar 2) mNil))))))))
def M_middle : List D → S → R D := (mFn 3 3 B_middle)
/-! _law_same -/
abbrev N__law_same : List Str := ["given", "due", "k"]
theorem nd__law_same : N__law_same.Nodup := by decide
def _law_same_e1 (M__law_same : List D → S → R D) : Fr → S → R D := (mCall M__law_same (mCons (mOp ixOp (mVar 0) (mVar 2)) (mCons (mOp ixOp (mVar 1) (mVar 2)) mNil)))
def B__law_same (M__law_same : List D → S → R D) : Fr → S → T := (mSeq (mIfS (mB (mCall (isiM subZ) (mCons (mVar 1) (mCons (mDisp mkT (mCons (mC (.ty "list")) (mCons (mC (.ty "tuple")) mNil))) mNil)))) (mSeq (mIfS (mOr (mB (mOp neOp (mCall (isiM subZ) (mCons (mVar 0) (mCons (mC (.ty "list")) mNil))) (mCall (isiM subZ) (mCons (mVar 1) (mCons (mC (.ty "list")) mNil))))) (mB (mOp neOp (mCall (isiM subZ) (mCons (mVar 0) (mCons (mC (.ty "tuple")) mNil))) (mCall (isiM subZ) (mCons (mVar 1) (mCons (mC (.ty "tuple")) mNil)))))) (mRet (mC (.bl false))) mNext) (mSeq (mIfS (mB (mOp neOp (mCall (lenOp) (mCons (mVar 0) mNil)) (mCall (lenOp) (mCons (mVar 1) mNil)))) (mRet (mC (.bl false))) mNext) (mRet (mCall (allOp) (mCons (mLc mkF (rng1 (mCall (lenOp) (mCons (mVar 1) mNil))) [2] (.n 2) yesM (_law_same_e1 M__law_same)) mNil))))) mNext) (mSeq (mIfS (mOr (mB (mCall (isiM subZ) (mCons (mVar 0) (mCons (mDisp mkT (mCons (mC (.ty "list")) (mCons (mC (.ty "tuple")) mNil))) mNil)))) (mB (mOp neOp (mCall (isiM subZ) (mCons (mVar 0) (mCons (mC (.ty "bool")) mNil))) (mCall (isiM subZ) (mCons (mVar 1) (mCons (mC (.ty "bool")) mNil)))))) (mRet (mC (.bl false))) mNext) (mSeq (mIfS (mB (mOp (isN false) (mVar 1) (mC .non))) (mRet (mOp (isN false) (mVar 0) (mC .non))) mNext) (mRet (mOp eqOp (mVar 0) (mVar 1))))))
def M__law_same : Nat → List D → S → R D
  | 0 => fun _ _ => .bad
  | n + 1 => (mFn 2 3 (B__law_same (M__law_same n)))
/-! law -/
abbrev N_law : List Str := ["script", "great", "cell", "well", "pool", "k", "ones", "twos", "threes", "due", "a", "b", "c", "answers", "mask"]
theorem nd_law : N_law.Nodup := by decide
def law_f1 : Fr → S → T := (mExpr (mMethL appOp (mVar 4) (mCons (mCall M__law_dip (mCons (mVar 3) (mCons (mOp ixOp (mDisp mkF (mCons (mC (.int 10)) (mCons (mC (.int 100)) (mCons (mOp powOp (mC (.int 10)) (mC (.int 5))) (mCons (mOp powOp (mC (.int 10)) (mC (.int 12))) (mCons (mOp powOp (mC (.int 10)) (mC (.int 40))) mNil)))))) (mCall M__law_dip (mCons (mVar 3) (mCons (mC (.int 5)) mNil)))) mNil))) mNil)))
def law_f2 : Fr → S → T := (mSeq (mSet 14 (mCall M__law_dip (mCons (mVar 3) (mCons (mC (.int 8)) mNil)))) (mSeq (mIfS (mB (mOp eqOp (mOp bandOp (mVar 14) (mC (.int 1))) (mC (.int 1)))) (mExpr (mMethL appOp (mVar 6) (mCons (mVar 5) mNil))) mNext) (mSeq (mIfS (mB (mOp eqOp (mOp bandOp (mVar 14) (mC (.int 2))) (mC (.int 2)))) (mExpr (mMethL appOp (mVar 7) (mCons (mVar 5) mNil))) mNext) (mSeq (mIfS (mB (mOp eqOp (mOp bandOp (mVar 14) (mC (.int 4))) (mC (.int 4)))) (mExpr (mMethL appOp (mVar 8) (mCons (mVar 5) mNil))) mNext) (mIfS (mB (mOp inOp (mVar 14) (mDisp mkF (mCons (mC (.int 3)) (mCons (mC (.int 5)) (mCons (mC (.int 6)) (mCons (mC (.int 7)) mNil))))))) (mExpr (mMethL appOp (mVar 9) (mCons (mVar 5) mNil))) mNext)))))
def law_e1 : Fr → S → R D := (mCall (tupleOp) (mCons (mVar 9) mNil))
def law_f3 : Fr → S → T := (mSeq (mSet 3 (mCall M__law_draws_of (mCons (mVar 2) mNil))) (mSeq (mSet 4 (mLc mkC (rng1 (mCall M__law_dip (mCons (mVar 3) (mCons (mC (.int 4)) mNil)))) [5] (.n 5) yesM (mVar 5))) (mSeq (mFor (rng1 (mCall M__law_dip (mCons (mVar 3) (mCons (mC (.int 7)) mNil)))) (gN 5) law_f1) (mSeq (mSet 4 (mUn (setSort mkC) (mVar 4))) (mSeq (mSet 6 (mDisp mkC mNil)) (mSeq (mSet 7 (mDisp mkC mNil)) (mSeq (mSet 8 (mDisp mkC mNil)) (mSeq (mSet 9 (mDisp mkC mNil)) (mSeq (mFor (mIter (mVar 4)) (gN 5) law_f2) (mSeq (mSet 10 (mCall (tupleOp) (mCons (mVar 6) mNil))) (mSeq (mSet 11 (mCall (tupleOp) (mCons (mVar 7) mNil))) (mSeq (mSet 12 (mCall (tupleOp) (mCons (mVar 8) mNil))) (mSeq (mSet 13 (mDisp mkC (mCons (mCall M_middle (mCons (mVar 10) (mCons (mVar 11) (mCons (mVar 12) mNil)))) (mCons (mCall M_middle (mCons (mVar 12) (mCons (mVar 10) (mCons (mVar 11) mNil)))) (mCons (mCall M_middle (mCons (mVar 11) (mCons (mVar 12) (mCons (mVar 10) mNil)))) (mCons (mCall M_middle (mCons (mVar 11) (mCons (mVar 10) (mCons (mVar 12) mNil)))) (mCons (mCall M_middle (mCons (mVar 10) (mCons (mVar 12) (mCons (mVar 11) mNil)))) mNil))))))) (mSeq (mExpr (mMethL appOp (mVar 13) (mCons (mCallK (fun l s => M_middle (pick [1, 2, 0] l) s) mNil (mCons (mVar 10) (mCons (mVar 12) (mCons (mVar 11) mNil)))) mNil))) (mSeq (mIfS (mNot (mB (mCall (M__law_same 6) (mCons (mVar 13) (mCons (mLc mkF (rng1 (mC (.int 6))) [5] (.n 5) yesM law_e1) mNil))))) (mRet (mC (.bl false))) mNext) (mIfS (mNot (mB (mCall (M__law_same 6) (mCons (mDisp mkF (mCons (mCall M_middle (mCons (mVar 10) (mCons (mVar 10) (mCons (mVar 12) mNil)))) (mCons (mCall M_middle (mCons (mVar 11) (mCons (mVar 12) (mCons (mVar 11) mNil)))) (mCons (mCall M_middle (mCons (mVar 10) (mCons (mVar 12) (mCons (mVar 12) mNil)))) mNil)))) (mCons (mDisp mkF (mCons (mVar 10) (mCons (mVar 11) (mCons (mVar 12) mNil)))) mNil))))) (mRet (mC (.bl false))) mNext))))))))))))))))
def B_law : Fr → S → T := (mSeq (mSet 1 (mC (.int 532987656908178785100024952297691013459910497302476614039835399064559454294728582084585767307402))) (mSeq (mFor (mIter (mOp (addOp mkF) (mDisp mkF (mCons (mVar 1) mNil)) (mSl mkF (mVar 0) noPart (aPart (mC (.int 20)))))) (gN 2) law_f3) (mRet (mC (.bl true)))))
def M_law : List D → S → R D := (mFn 1 15 B_law)
end Lw

set_option Elab.async false
set_option linter.all false
set_option maxRecDepth 100000
namespace Lw
open PySem PySem.Spec PyProof.Rows L2 Mi
theorem draws (cell : Int) (s : S) : ∃ b h : Int, M__law_draws_of [.int cell] s = .ok (.ref s.length) (s ++ [.lst [.int b, .int 0, .int h]]) ∧ 0 ≤ h ∧ h < 10 ^ 25 := by
  have p18 : powOp (.int 10) (.int 18) s = .ok (.int 1000000000000000000) s := pow_ii
  have p24 : powOp (.int 10) (.int 24) s = .ok (.int 1000000000000000000000000) s := pow_ii
  by_cases hc : 1000000000000000000 ≤ cell
  · refine ⟨cell - 1000000000000000000, cell % 1000003, ?_, by omega, by omega⟩
    unfold M__law_draws_of B__law_draws_of
    simp only [mVar_e, mC_e, mNil_e, mCons_e, mOp_e, mUn_e, mChain_e, mB_e, asB_e, mAnd_e, mOr_e, mNot_e, mAndV_e, mOrV_e, mNotV_e, mIf_e, mDisp_e, mCall_e, mCallK_e, mMethL_e, noPart_e, aPart_e, mSl_e, mIter_e, rng1_e, rng2_e, mLc_e, yesM_e, mSeq_e, mNext_e, mBreak_e, mCont_e, mExpr_e, mRet_e, mRetN_e, mIfS_e, mSet_e, mSetL_e, mFor_e, mRaise_e, mFn_0, mFn_1, mFn_2, mFn_3, mFn_4, mFn_5, mFn_6, mFn_7, mFn_8, mkT_0, mkT_1, mkT_2, mkT_3, mkT_4, mkT_5, mkT_6, mkT_7, mkT_8, mkT_9, mkT_10, mkF_0, mkF_1, mkF_2, mkF_3, mkF_4, mkF_5, mkF_6, mkF_7, mkF_8, mkF_9, mkF_10, mkC_0, mkC_1, mkC_2, mkC_3, mkC_4, mkC_5, mkC_6, mkC_7, mkC_8, mkC_9, mkC_10, ne_bb, eq_bb, aPart_i, gN_e, gD_n, wipeE_nil, wipeE_cons, bind_o, bind_x, bind_b, go_o, go_x, go_b, then_nx, then_rt, then_bk, then_ct, then_ex, then_bad, forNext_nx, forNext_ct, forNext_bk, forNext_rt, forNext_ex, endR_rt, endR_nx, endR_ex, noex_ok', List.map_cons, List.map_nil, List.cons_append, List.nil_append, List.replicate_succ, List.replicate_zero, List.getElem?_cons_zero, List.getElem?_cons_succ, List.set_cons_zero, List.set_cons_succ, Nat.reduceSub, Nat.sub_self, Nat.sub_zero, if_true, if_false, Bool.false_eq_true, eq_ii, ne_ii, lt_ii, gt_ii, le_ii, ge_ii, add_ii, sub_ii, and_ii, or_ii, xor_ii, neg_i, int1_i, len_tup, len_lst, len_scr, iter_tup, iter_lst, iter_scr, asQ_tup, asQ_lst, asQ_scr, asL_lst, decide_true, decide_false, decide_eq_true_eq, Bool.not_true, Bool.not_false, reduceCtorEq, p18, p24, hc, mod_ii (show (0:Int) < 1000003 by decide)]
  · refine ⟨0, cell % 1000000000000000000000007, ?_, by omega, by omega⟩
    unfold M__law_draws_of B__law_draws_of
    simp only [mVar_e, mC_e, mNil_e, mCons_e, mOp_e, mUn_e, mChain_e, mB_e, asB_e, mAnd_e, mOr_e, mNot_e, mAndV_e, mOrV_e, mNotV_e, mIf_e, mDisp_e, mCall_e, mCallK_e, mMethL_e, noPart_e, aPart_e, mSl_e, mIter_e, rng1_e, rng2_e, mLc_e, yesM_e, mSeq_e, mNext_e, mBreak_e, mCont_e, mExpr_e, mRet_e, mRetN_e, mIfS_e, mSet_e, mSetL_e, mFor_e, mRaise_e, mFn_0, mFn_1, mFn_2, mFn_3, mFn_4, mFn_5, mFn_6, mFn_7, mFn_8, mkT_0, mkT_1, mkT_2, mkT_3, mkT_4, mkT_5, mkT_6, mkT_7, mkT_8, mkT_9, mkT_10, mkF_0, mkF_1, mkF_2, mkF_3, mkF_4, mkF_5, mkF_6, mkF_7, mkF_8, mkF_9, mkF_10, mkC_0, mkC_1, mkC_2, mkC_3, mkC_4, mkC_5, mkC_6, mkC_7, mkC_8, mkC_9, mkC_10, ne_bb, eq_bb, aPart_i, gN_e, gD_n, wipeE_nil, wipeE_cons, bind_o, bind_x, bind_b, go_o, go_x, go_b, then_nx, then_rt, then_bk, then_ct, then_ex, then_bad, forNext_nx, forNext_ct, forNext_bk, forNext_rt, forNext_ex, endR_rt, endR_nx, endR_ex, noex_ok', List.map_cons, List.map_nil, List.cons_append, List.nil_append, List.replicate_succ, List.replicate_zero, List.getElem?_cons_zero, List.getElem?_cons_succ, List.set_cons_zero, List.set_cons_succ, Nat.reduceSub, Nat.sub_self, Nat.sub_zero, if_true, if_false, Bool.false_eq_true, eq_ii, ne_ii, lt_ii, gt_ii, le_ii, ge_ii, add_ii, sub_ii, and_ii, or_ii, xor_ii, neg_i, int1_i, len_tup, len_lst, len_scr, iter_tup, iter_lst, iter_scr, asQ_tup, asQ_lst, asQ_scr, asL_lst, decide_true, decide_false, decide_eq_true_eq, Bool.not_true, Bool.not_false, reduceCtorEq, p18, p24, hc]
    rw [show (1000000000000000000000000 + 7 : Int) = 1000000000000000000000007 by decide, mod_ii (by decide)]
    simp only [mVar_e, mC_e, mNil_e, mCons_e, mOp_e, mUn_e, mChain_e, mB_e, asB_e, mAnd_e, mOr_e, mNot_e, mAndV_e, mOrV_e, mNotV_e, mIf_e, mDisp_e, mCall_e, mCallK_e, mMethL_e, noPart_e, aPart_e, mSl_e, mIter_e, rng1_e, rng2_e, mLc_e, yesM_e, mSeq_e, mNext_e, mBreak_e, mCont_e, mExpr_e, mRet_e, mRetN_e, mIfS_e, mSet_e, mSetL_e, mFor_e, mRaise_e, mFn_0, mFn_1, mFn_2, mFn_3, mFn_4, mFn_5, mFn_6, mFn_7, mFn_8, mkT_0, mkT_1, mkT_2, mkT_3, mkT_4, mkT_5, mkT_6, mkT_7, mkT_8, mkT_9, mkT_10, mkF_0, mkF_1, mkF_2, mkF_3, mkF_4, mkF_5, mkF_6, mkF_7, mkF_8, mkF_9, mkF_10, mkC_0, mkC_1, mkC_2, mkC_3, mkC_4, mkC_5, mkC_6, mkC_7, mkC_8, mkC_9, mkC_10, ne_bb, eq_bb, aPart_i, gN_e, gD_n, wipeE_nil, wipeE_cons, bind_o, bind_x, bind_b, go_o, go_x, go_b, then_nx, then_rt, then_bk, then_ct, then_ex, then_bad, forNext_nx, forNext_ct, forNext_bk, forNext_rt, forNext_ex, endR_rt, endR_nx, endR_ex, noex_ok', List.map_cons, List.map_nil, List.cons_append, List.nil_append, List.replicate_succ, List.replicate_zero, List.getElem?_cons_zero, List.getElem?_cons_succ, List.set_cons_zero, List.set_cons_succ, Nat.reduceSub, Nat.sub_self, Nat.sub_zero, if_true, if_false, Bool.false_eq_true, eq_ii, ne_ii, lt_ii, gt_ii, le_ii, ge_ii, add_ii, sub_ii, and_ii, or_ii, xor_ii, neg_i, int1_i, len_tup, len_lst, len_scr, iter_tup, iter_lst, iter_scr, asQ_tup, asQ_lst, asQ_scr, asL_lst, decide_true, decide_false, decide_eq_true_eq, Bool.not_true, Bool.not_false, reduceCtorEq]

/-- the well at cell i: its count is at most n -/
def Well (n : Nat) (s : S) (i : Nat) : Prop := ∃ b c h : Int, s[i]? = some (.lst [.int b, .int c, .int h]) ∧ 0 ≤ c ∧ c ≤ n ∧ 0 ≤ h ∧ h < 10 ^ 25
/-- all but the cell i is as it was -/
structure Same (i : Nat) (s s' : S) : Prop where
  len : s'.length = s.length
  at_ : ∀ j, j ≠ i → s'[j]? = s[j]?
theorem same_set {i : Nat} {s : S} {c : Cell} : Same i s (s.set i c) := ⟨by simp, fun j h => by rw [List.getElem?_set_ne (Ne.symm h)]⟩
theorem Same.refl {i : Nat} {s : S} : Same i s s := ⟨rfl, fun _ _ => rfl⟩
theorem Same.trans {i : Nat} {s s' s'' : S} (a : Same i s s') (b : Same i s' s'') : Same i s s'' := ⟨b.len.trans a.len, fun j h => (b.at_ j h).trans (a.at_ j h)⟩
theorem bits {i : Int} {n : Nat} (h : i.natAbs < 2 ^ n) (hn : 0 < n) : i.natAbs.log2 < n := log2_lt h hn
theorem dip {n : Nat} {s : S} {i : Nat} {k : Int} (w : Well n s i) (hn : n < 1000000000) (hk : 0 < k) (hk2 : k.natAbs.log2 < 9000) : ∃ v s', M__law_dip [.ref i, .int k] s = .ok (.int v) s' ∧ 0 ≤ v ∧ v < k ∧ Well (n + 1) s' i ∧ Same i s s' := by
  obtain ⟨b, c, h, hs, hc, hcn, hh, hh2⟩ := w
  have hl : i < s.length := (List.getElem?_eq_some_iff.mp hs).1
  have x0 : ixOp (.ref i) (.int 0) s = .ok (.int b) s := ix_ref hs rfl
  have x1 : ixOp (.ref i) (.int 1) s = .ok (.int c) s := ix_ref hs rfl
  by_cases hb : 0 < b
  · refine ⟨b % k, s.set i (.lst [.int (b / k), .int c, .int h]), ?_, Int.emod_nonneg _ (by omega), Int.emod_lt_of_pos _ hk, ⟨b / k, c, h, by rw [List.getElem?_set_self hl], hc, by omega, hh, hh2⟩, same_set⟩
    have st : setOp (.ref i) (.int 0) (.int (b / k)) s = .ok () (s.set i (.lst [.int (b / k), .int c, .int h])) := set_ref (j := 0) hs (by simp)
    unfold M__law_dip B__law_dip
    simp only [mVar_e, mC_e, mNil_e, mCons_e, mOp_e, mUn_e, mChain_e, mB_e, asB_e, mAnd_e, mOr_e, mNot_e, mAndV_e, mOrV_e, mNotV_e, mIf_e, mDisp_e, mCall_e, mCallK_e, mMethL_e, noPart_e, aPart_e, mSl_e, mIter_e, rng1_e, rng2_e, mLc_e, yesM_e, mSeq_e, mNext_e, mBreak_e, mCont_e, mExpr_e, mRet_e, mRetN_e, mIfS_e, mSet_e, mSetL_e, mFor_e, mRaise_e, mFn_0, mFn_1, mFn_2, mFn_3, mFn_4, mFn_5, mFn_6, mFn_7, mFn_8, mkT_0, mkT_1, mkT_2, mkT_3, mkT_4, mkT_5, mkT_6, mkT_7, mkT_8, mkT_9, mkT_10, mkF_0, mkF_1, mkF_2, mkF_3, mkF_4, mkF_5, mkF_6, mkF_7, mkF_8, mkF_9, mkF_10, mkC_0, mkC_1, mkC_2, mkC_3, mkC_4, mkC_5, mkC_6, mkC_7, mkC_8, mkC_9, mkC_10, ne_bb, eq_bb, aPart_i, gN_e, gD_n, wipeE_nil, wipeE_cons, bind_o, bind_x, bind_b, go_o, go_x, go_b, then_nx, then_rt, then_bk, then_ct, then_ex, then_bad, forNext_nx, forNext_ct, forNext_bk, forNext_rt, forNext_ex, endR_rt, endR_nx, endR_ex, noex_ok', List.map_cons, List.map_nil, List.cons_append, List.nil_append, List.replicate_succ, List.replicate_zero, List.getElem?_cons_zero, List.getElem?_cons_succ, List.set_cons_zero, List.set_cons_succ, Nat.reduceSub, Nat.sub_self, Nat.sub_zero, if_true, if_false, Bool.false_eq_true, eq_ii, ne_ii, lt_ii, gt_ii, le_ii, ge_ii, add_ii, sub_ii, and_ii, or_ii, xor_ii, neg_i, int1_i, len_tup, len_lst, len_scr, iter_tup, iter_lst, iter_scr, asQ_tup, asQ_lst, asQ_scr, asL_lst, decide_true, decide_false, decide_eq_true_eq, Bool.not_true, Bool.not_false, reduceCtorEq, x0, hb, mod_ii hk, div_ii hk hk2, st]
  · let s1 := s.set i (.lst [.int b, .int (c + 1), .int h])
    have hs1 : s1[i]? = some (.lst [.int b, .int (c + 1), .int h]) := by rw [List.getElem?_set_self hl]
    have st : setOp (.ref i) (.int 1) (.int (c + 1)) s = .ok () s1 := set_ref (j := 1) hs (by simp)
    have y1 : ixOp (.ref i) (.int 1) s1 = .ok (.int (c + 1)) s1 := ix_ref hs1 rfl
    have y2 : ixOp (.ref i) (.int 2) s1 = .ok (.int h) s1 := ix_ref hs1 rfl
    generalize he : c + 1 = e at *
    have he1 : 1 ≤ e ∧ e ≤ 1000000000 := by omega
    have m1 : mulOp mkF (.int 2) (.int e) s1 = .ok (.int (2 * e)) s1 := mul_ii (by
      have := bits (i := e) (n := 100) (by omega) (by decide)
      have : (2 : Int).natAbs.log2 = 1 := by decide
      omega)
    have m2 : mulOp mkF (.int (h + 1)) (.int (48611 + 2 * e)) s1 = .ok (.int ((h + 1) * (48611 + 2 * e))) s1 := mul_ii (by
      have a := bits (i := h + 1) (n := 100) (by omega) (by decide)
      have b := bits (i := 48611 + 2 * e) (n := 100) (by omega) (by decide)
      omega)
    have m3 : mulOp mkF (.int 1299709) (.int e) s1 = .ok (.int (1299709 * e)) s1 := mul_ii (by
      have a := bits (i := 1299709) (n := 100) (by omega) (by decide)
      have b := bits (i := e) (n := 100) (by omega) (by decide)
      omega)
    have m4 : mulOp mkF (.int (1299709 * e)) (.int e) s1 = .ok (.int (1299709 * e * e)) s1 := mul_ii (by
      have a := bits (i := 1299709 * e) (n := 100) (by omega) (by decide)
      have b := bits (i := e) (n := 100) (by omega) (by decide)
      omega)
    have g1 : 0 ≤ (h + 1) * (48611 + 2 * e) ∧ (h + 1) * (48611 + 2 * e) ≤ 10 ^ 26 * 10 ^ 10 := ⟨Int.mul_nonneg (by omega) (by omega), Int.mul_le_mul (by omega) (by omega) (by omega) (by decide)⟩
    have g2 : 0 ≤ 1299709 * e * e ∧ 1299709 * e * e ≤ 10 ^ 17 * 10 ^ 10 := ⟨Int.mul_nonneg (by omega) (by omega), Int.mul_le_mul (by omega) (by omega) (by omega) (by decide)⟩
    generalize hch : (h + 1) * (48611 + 2 * e) + 1299709 * e * e = ch at *
    have g3 : 0 ≤ ch ∧ ch < 2 ^ 200 := by omega
    have m5 : mulOp mkF (.int ch) (.int ch) s1 = .ok (.int (ch * ch)) s1 := mul_ii (by
      have a := bits (i := ch) (n := 200) (by omega) (by decide)
      omega)
    have g4 := Int.emod_nonneg (ch * ch) (show (2305843009213693951 : Int) ≠ 0 by decide)
    have g5 := Int.emod_lt_of_pos (ch * ch) (show (0 : Int) < 2305843009213693951 by decide)
    generalize hr : ch * ch % 2305843009213693951 = r at *
    have m6 : mulOp mkF (.int r) (.int 39916801) s1 = .ok (.int (r * 39916801)) s1 := mul_ii (by
      have a := bits (i := r) (n := 200) (by omega) (by decide)
      have b := bits (i := 39916801) (n := 200) (by omega) (by decide)
      omega)
    refine ⟨r * 39916801 % 1000000000000000003 / 1024 % k, s1, ?_, Int.emod_nonneg _ (by omega), Int.emod_lt_of_pos _ hk, ⟨b, e, h, hs1, by omega, by omega, hh, hh2⟩, same_set⟩
    unfold M__law_dip B__law_dip
    simp only [mVar_e, mC_e, mNil_e, mCons_e, mOp_e, mUn_e, mChain_e, mB_e, asB_e, mAnd_e, mOr_e, mNot_e, mAndV_e, mOrV_e, mNotV_e, mIf_e, mDisp_e, mCall_e, mCallK_e, mMethL_e, noPart_e, aPart_e, mSl_e, mIter_e, rng1_e, rng2_e, mLc_e, yesM_e, mSeq_e, mNext_e, mBreak_e, mCont_e, mExpr_e, mRet_e, mRetN_e, mIfS_e, mSet_e, mSetL_e, mFor_e, mRaise_e, mFn_0, mFn_1, mFn_2, mFn_3, mFn_4, mFn_5, mFn_6, mFn_7, mFn_8, mkT_0, mkT_1, mkT_2, mkT_3, mkT_4, mkT_5, mkT_6, mkT_7, mkT_8, mkT_9, mkT_10, mkF_0, mkF_1, mkF_2, mkF_3, mkF_4, mkF_5, mkF_6, mkF_7, mkF_8, mkF_9, mkF_10, mkC_0, mkC_1, mkC_2, mkC_3, mkC_4, mkC_5, mkC_6, mkC_7, mkC_8, mkC_9, mkC_10, ne_bb, eq_bb, aPart_i, gN_e, gD_n, wipeE_nil, wipeE_cons, bind_o, bind_x, bind_b, go_o, go_x, go_b, then_nx, then_rt, then_bk, then_ct, then_ex, then_bad, forNext_nx, forNext_ct, forNext_bk, forNext_rt, forNext_ex, endR_rt, endR_nx, endR_ex, noex_ok', List.map_cons, List.map_nil, List.cons_append, List.nil_append, List.replicate_succ, List.replicate_zero, List.getElem?_cons_zero, List.getElem?_cons_succ, List.set_cons_zero, List.set_cons_succ, Nat.reduceSub, Nat.sub_self, Nat.sub_zero, if_true, if_false, Bool.false_eq_true, eq_ii, ne_ii, lt_ii, gt_ii, le_ii, ge_ii, add_ii, sub_ii, and_ii, or_ii, xor_ii, neg_i, int1_i, len_tup, len_lst, len_scr, iter_tup, iter_lst, iter_scr, asQ_tup, asQ_lst, asQ_scr, asL_lst, decide_true, decide_false, decide_eq_true_eq, Bool.not_true, Bool.not_false, reduceCtorEq, x0, x1, hb, he, st, y1, y2, m1, m2, m3, m4, hch, m5, hr, m6, mod_ii hk, mod_ii (show (0 : Int) < 2305843009213693951 by decide), mod_ii (show (0 : Int) < 1000000000000000003 by decide), div_ii (i := r * 39916801 % 1000000000000000003) (s := s1) (show (0 : Int) < 1024 by decide) (by decide)]

/-! the same -/
theorem same_leaf {n : Nat} {s : S} (a b : Int) : M__law_same (n + 1) [.int a, .int b] s = .ok (.bl (decide (a = b))) s := by
  unfold M__law_same B__law_same
  have i1 : ∀ a : Int, isiM subZ [.int a, .tup [.ty "list", .ty "tuple"]] s = .ok (.bl false) s := fun a => isi_tys ty_int rfl
  have i2 : ∀ a : Int, isiM subZ [.int a, .ty "bool"] s = .ok (.bl false) s := fun a => isi_ty ty_int rfl
  have i3 : isN false (.int b) .non s = .ok (.bl false) s := rfl
  simp only [mVar_e, mC_e, mNil_e, mCons_e, mOp_e, mUn_e, mChain_e, mB_e, asB_e, mAnd_e, mOr_e, mNot_e, mAndV_e, mOrV_e, mNotV_e, mIf_e, mDisp_e, mCall_e, mCallK_e, mMethL_e, noPart_e, aPart_e, mSl_e, mIter_e, rng1_e, rng2_e, mLc_e, yesM_e, mSeq_e, mNext_e, mBreak_e, mCont_e, mExpr_e, mRet_e, mRetN_e, mIfS_e, mSet_e, mSetL_e, mFor_e, mRaise_e, mFn_0, mFn_1, mFn_2, mFn_3, mFn_4, mFn_5, mFn_6, mFn_7, mFn_8, mkT_0, mkT_1, mkT_2, mkT_3, mkT_4, mkT_5, mkT_6, mkT_7, mkT_8, mkT_9, mkT_10, mkF_0, mkF_1, mkF_2, mkF_3, mkF_4, mkF_5, mkF_6, mkF_7, mkF_8, mkF_9, mkF_10, mkC_0, mkC_1, mkC_2, mkC_3, mkC_4, mkC_5, mkC_6, mkC_7, mkC_8, mkC_9, mkC_10, ne_bb, eq_bb, aPart_i, gN_e, gD_n, wipeE_nil, wipeE_cons, bind_o, bind_x, bind_b, go_o, go_x, go_b, then_nx, then_rt, then_bk, then_ct, then_ex, then_bad, forNext_nx, forNext_ct, forNext_bk, forNext_rt, forNext_ex, endR_rt, endR_nx, endR_ex, noex_ok', List.map_cons, List.map_nil, List.cons_append, List.nil_append, List.replicate_succ, List.replicate_zero, List.getElem?_cons_zero, List.getElem?_cons_succ, List.set_cons_zero, List.set_cons_succ, Nat.reduceSub, Nat.sub_self, Nat.sub_zero, if_true, if_false, Bool.false_eq_true, eq_ii, ne_ii, lt_ii, gt_ii, le_ii, ge_ii, add_ii, sub_ii, and_ii, or_ii, xor_ii, neg_i, int1_i, len_tup, len_lst, len_scr, iter_tup, iter_lst, iter_scr, asQ_tup, asQ_lst, asQ_scr, asL_lst, decide_true, decide_false, decide_eq_true_eq, Bool.not_true, Bool.not_false, reduceCtorEq, i1, i2, i3, decide_true]
/-- two sequences of one kind -/
theorem same_seq {n : Nat} {s : S} {t : String} (ht : t = "tuple" ∨ t = "list") {α : Type} [DecidableEq α] {g d : D} {e : α → D} {as bs : List α} (hb : bs.length ≤ 100000) (tg : tyD g s = some (.b t)) (td : tyD d s = some (.b t)) (lg : lenOp [g] s = .ok (.int as.length) s) (ld : lenOp [d] s = .ok (.int bs.length) s)
    (xg : ∀ k a, as[k]? = some a → ixOp g (.int (k : Nat)) s = .ok (e a) s) (xd : ∀ k a, bs[k]? = some a → ixOp d (.int (k : Nat)) s = .ok (e a) s)
    (h : ∀ a b, a ∈ as → b ∈ bs → M__law_same n [e a, e b] s = .ok (.bl (decide (a = b))) s) : M__law_same (n + 1) [g, d] s = .ok (.bl (decide (as = bs))) s := by
  unfold M__law_same B__law_same
  have i1 : isiM subZ [d, .tup [.ty "list", .ty "tuple"]] s = .ok (.bl true) s := isi_tys td (by rcases ht with rfl | rfl <;> rfl)
  have i2 : isiM subZ [d, .ty "list"] s = .ok (.bl (t == "list")) s := isi_ty td (by rcases ht with rfl | rfl <;> rfl)
  have i3 : isiM subZ [d, .ty "tuple"] s = .ok (.bl (t == "tuple")) s := isi_ty td (by rcases ht with rfl | rfl <;> rfl)
  have i4 : isiM subZ [g, .ty "list"] s = .ok (.bl (t == "list")) s := isi_ty tg (by rcases ht with rfl | rfl <;> rfl)
  have i5 : isiM subZ [g, .ty "tuple"] s = .ok (.bl (t == "tuple")) s := isi_ty tg (by rcases ht with rfl | rfl <;> rfl)
  have hz : -10 ^ 12 ≤ (bs.length : Int) ∧ (bs.length : Int) ≤ 10 ^ 12 := by omega
  by_cases hl : as.length = bs.length
  · have key : ∀ env : Fr, env = [some g, some d, none] → lcGo (fun _ => true) (gD (.n 2)) yesM (_law_same_e1 (M__law_same n)) env ((List.range bs.length).map fun k => D.int (k : Nat)) s = .ok ((List.range bs.length).map fun k => .bl (decide (as[k]? = bs[k]?))) s := by
      rintro env rfl
      refine lc_map1 rfl (fun k : Nat => D.int (k : Nat)) _ fun k hk => ⟨_, gD_n, ?_⟩
      have hk' : k < bs.length := List.mem_range.mp hk
      have x1 := xg k as[k] (List.getElem?_eq_getElem (by omega))
      have x2 := xd k bs[k] (List.getElem?_eq_getElem (by omega))
      have hh := h as[k] bs[k] (List.getElem_mem _) (List.getElem_mem _)
      unfold _law_same_e1
      simp only [mVar_e, mC_e, mNil_e, mCons_e, mOp_e, mUn_e, mChain_e, mB_e, asB_e, mAnd_e, mOr_e, mNot_e, mAndV_e, mOrV_e, mNotV_e, mIf_e, mDisp_e, mCall_e, mCallK_e, mMethL_e, noPart_e, aPart_e, mSl_e, mIter_e, rng1_e, rng2_e, mLc_e, yesM_e, mSeq_e, mNext_e, mBreak_e, mCont_e, mExpr_e, mRet_e, mRetN_e, mIfS_e, mSet_e, mSetL_e, mFor_e, mRaise_e, mFn_0, mFn_1, mFn_2, mFn_3, mFn_4, mFn_5, mFn_6, mFn_7, mFn_8, mkT_0, mkT_1, mkT_2, mkT_3, mkT_4, mkT_5, mkT_6, mkT_7, mkT_8, mkT_9, mkT_10, mkF_0, mkF_1, mkF_2, mkF_3, mkF_4, mkF_5, mkF_6, mkF_7, mkF_8, mkF_9, mkF_10, mkC_0, mkC_1, mkC_2, mkC_3, mkC_4, mkC_5, mkC_6, mkC_7, mkC_8, mkC_9, mkC_10, ne_bb, eq_bb, aPart_i, gN_e, gD_n, wipeE_nil, wipeE_cons, bind_o, bind_x, bind_b, go_o, go_x, go_b, then_nx, then_rt, then_bk, then_ct, then_ex, then_bad, forNext_nx, forNext_ct, forNext_bk, forNext_rt, forNext_ex, endR_rt, endR_nx, endR_ex, noex_ok', List.map_cons, List.map_nil, List.cons_append, List.nil_append, List.replicate_succ, List.replicate_zero, List.getElem?_cons_zero, List.getElem?_cons_succ, List.set_cons_zero, List.set_cons_succ, Nat.reduceSub, Nat.sub_self, Nat.sub_zero, if_true, if_false, Bool.false_eq_true, eq_ii, ne_ii, lt_ii, gt_ii, le_ii, ge_ii, add_ii, sub_ii, and_ii, or_ii, xor_ii, neg_i, int1_i, len_tup, len_lst, len_scr, iter_tup, iter_lst, iter_scr, asQ_tup, asQ_lst, asQ_scr, asL_lst, decide_true, decide_false, decide_eq_true_eq, Bool.not_true, Bool.not_false, reduceCtorEq, x1, x2, hh, List.getElem?_eq_getElem (show k < as.length by omega), List.getElem?_eq_getElem hk', Option.some.injEq]
    simp only [mVar_e, mC_e, mNil_e, mCons_e, mOp_e, mUn_e, mChain_e, mB_e, asB_e, mAnd_e, mOr_e, mNot_e, mAndV_e, mOrV_e, mNotV_e, mIf_e, mDisp_e, mCall_e, mCallK_e, mMethL_e, noPart_e, aPart_e, mSl_e, mIter_e, rng1_e, rng2_e, mLc_e, yesM_e, mSeq_e, mNext_e, mBreak_e, mCont_e, mExpr_e, mRet_e, mRetN_e, mIfS_e, mSet_e, mSetL_e, mFor_e, mRaise_e, mFn_0, mFn_1, mFn_2, mFn_3, mFn_4, mFn_5, mFn_6, mFn_7, mFn_8, mkT_0, mkT_1, mkT_2, mkT_3, mkT_4, mkT_5, mkT_6, mkT_7, mkT_8, mkT_9, mkT_10, mkF_0, mkF_1, mkF_2, mkF_3, mkF_4, mkF_5, mkF_6, mkF_7, mkF_8, mkF_9, mkF_10, mkC_0, mkC_1, mkC_2, mkC_3, mkC_4, mkC_5, mkC_6, mkC_7, mkC_8, mkC_9, mkC_10, ne_bb, eq_bb, aPart_i, gN_e, gD_n, wipeE_nil, wipeE_cons, bind_o, bind_x, bind_b, go_o, go_x, go_b, then_nx, then_rt, then_bk, then_ct, then_ex, then_bad, forNext_nx, forNext_ct, forNext_bk, forNext_rt, forNext_ex, endR_rt, endR_nx, endR_ex, noex_ok', List.map_cons, List.map_nil, List.cons_append, List.nil_append, List.replicate_succ, List.replicate_zero, List.getElem?_cons_zero, List.getElem?_cons_succ, List.set_cons_zero, List.set_cons_succ, Nat.reduceSub, Nat.sub_self, Nat.sub_zero, if_true, if_false, Bool.false_eq_true, eq_ii, ne_ii, lt_ii, gt_ii, le_ii, ge_ii, add_ii, sub_ii, and_ii, or_ii, xor_ii, neg_i, int1_i, len_tup, len_lst, len_scr, iter_tup, iter_lst, iter_scr, asQ_tup, asQ_lst, asQ_scr, asL_lst, decide_true, decide_false, decide_eq_true_eq, Bool.not_true, Bool.not_false, reduceCtorEq, i1, i2, i3, i4, i5, lg, ld, hl, rng_i hz, range_nat, key _ rfl]
    rw [mkF_e (by rw [List.length_map, List.length_range]; exact small hb)]
    simp only [mVar_e, mC_e, mNil_e, mCons_e, mOp_e, mUn_e, mChain_e, mB_e, asB_e, mAnd_e, mOr_e, mNot_e, mAndV_e, mOrV_e, mNotV_e, mIf_e, mDisp_e, mCall_e, mCallK_e, mMethL_e, noPart_e, aPart_e, mSl_e, mIter_e, rng1_e, rng2_e, mLc_e, yesM_e, mSeq_e, mNext_e, mBreak_e, mCont_e, mExpr_e, mRet_e, mRetN_e, mIfS_e, mSet_e, mSetL_e, mFor_e, mRaise_e, mFn_0, mFn_1, mFn_2, mFn_3, mFn_4, mFn_5, mFn_6, mFn_7, mFn_8, mkT_0, mkT_1, mkT_2, mkT_3, mkT_4, mkT_5, mkT_6, mkT_7, mkT_8, mkT_9, mkT_10, mkF_0, mkF_1, mkF_2, mkF_3, mkF_4, mkF_5, mkF_6, mkF_7, mkF_8, mkF_9, mkF_10, mkC_0, mkC_1, mkC_2, mkC_3, mkC_4, mkC_5, mkC_6, mkC_7, mkC_8, mkC_9, mkC_10, ne_bb, eq_bb, aPart_i, gN_e, gD_n, wipeE_nil, wipeE_cons, bind_o, bind_x, bind_b, go_o, go_x, go_b, then_nx, then_rt, then_bk, then_ct, then_ex, then_bad, forNext_nx, forNext_ct, forNext_bk, forNext_rt, forNext_ex, endR_rt, endR_nx, endR_ex, noex_ok', List.map_cons, List.map_nil, List.cons_append, List.nil_append, List.replicate_succ, List.replicate_zero, List.getElem?_cons_zero, List.getElem?_cons_succ, List.set_cons_zero, List.set_cons_succ, Nat.reduceSub, Nat.sub_self, Nat.sub_zero, if_true, if_false, Bool.false_eq_true, eq_ii, ne_ii, lt_ii, gt_ii, le_ii, ge_ii, add_ii, sub_ii, and_ii, or_ii, xor_ii, neg_i, int1_i, len_tup, len_lst, len_scr, iter_tup, iter_lst, iter_scr, asQ_tup, asQ_lst, asQ_scr, asL_lst, decide_true, decide_false, decide_eq_true_eq, Bool.not_true, Bool.not_false, reduceCtorEq, all_map, all_places hl]
  · have hne : ¬ ((as.length : Int) = (bs.length : Int)) := by omega
    have hab : ¬ as = bs := fun q => hl (by rw [q])
    simp only [mVar_e, mC_e, mNil_e, mCons_e, mOp_e, mUn_e, mChain_e, mB_e, asB_e, mAnd_e, mOr_e, mNot_e, mAndV_e, mOrV_e, mNotV_e, mIf_e, mDisp_e, mCall_e, mCallK_e, mMethL_e, noPart_e, aPart_e, mSl_e, mIter_e, rng1_e, rng2_e, mLc_e, yesM_e, mSeq_e, mNext_e, mBreak_e, mCont_e, mExpr_e, mRet_e, mRetN_e, mIfS_e, mSet_e, mSetL_e, mFor_e, mRaise_e, mFn_0, mFn_1, mFn_2, mFn_3, mFn_4, mFn_5, mFn_6, mFn_7, mFn_8, mkT_0, mkT_1, mkT_2, mkT_3, mkT_4, mkT_5, mkT_6, mkT_7, mkT_8, mkT_9, mkT_10, mkF_0, mkF_1, mkF_2, mkF_3, mkF_4, mkF_5, mkF_6, mkF_7, mkF_8, mkF_9, mkF_10, mkC_0, mkC_1, mkC_2, mkC_3, mkC_4, mkC_5, mkC_6, mkC_7, mkC_8, mkC_9, mkC_10, ne_bb, eq_bb, aPart_i, gN_e, gD_n, wipeE_nil, wipeE_cons, bind_o, bind_x, bind_b, go_o, go_x, go_b, then_nx, then_rt, then_bk, then_ct, then_ex, then_bad, forNext_nx, forNext_ct, forNext_bk, forNext_rt, forNext_ex, endR_rt, endR_nx, endR_ex, noex_ok', List.map_cons, List.map_nil, List.cons_append, List.nil_append, List.replicate_succ, List.replicate_zero, List.getElem?_cons_zero, List.getElem?_cons_succ, List.set_cons_zero, List.set_cons_succ, Nat.reduceSub, Nat.sub_self, Nat.sub_zero, if_true, if_false, Bool.false_eq_true, eq_ii, ne_ii, lt_ii, gt_ii, le_ii, ge_ii, add_ii, sub_ii, and_ii, or_ii, xor_ii, neg_i, int1_i, len_tup, len_lst, len_scr, iter_tup, iter_lst, iter_scr, asQ_tup, asQ_lst, asQ_scr, asL_lst, decide_true, decide_false, decide_eq_true_eq, Bool.not_true, Bool.not_false, reduceCtorEq, i1, i2, i3, i4, i5, lg, ld, hne, hab]
theorem at_map {α : Type} {e : α → D} {as : List α} {k : Nat} {a : α} (h : as[k]? = some a) : L2.atI (as.map e) (k : Nat) = some (e a) := by
  rw [atN, List.getElem?_map, h]
  rfl
theorem same_tup {n : Nat} {s : S} {α : Type} [DecidableEq α] {e : α → D} {as bs : List α} (hb : bs.length ≤ 100000) (h : ∀ a b, a ∈ as → b ∈ bs → M__law_same n [e a, e b] s = .ok (.bl (decide (a = b))) s) :
    M__law_same (n + 1) [.tup (as.map e), .tup (bs.map e)] s = .ok (.bl (decide (as = bs))) s :=
  same_seq (.inl rfl) hb ty_tup ty_tup (by rw [len_tup, List.length_map]) (by rw [len_tup, List.length_map]) (fun k a q => ix_tup (at_map q)) (fun k a q => ix_tup (at_map q)) h
theorem same_lst {n : Nat} {s : S} {α : Type} [DecidableEq α] {e : α → D} {as bs : List α} (hb : bs.length ≤ 100000) (h : ∀ a b, a ∈ as → b ∈ bs → M__law_same n [e a, e b] s = .ok (.bl (decide (a = b))) s) :
    M__law_same (n + 1) [.lst (as.map e), .lst (bs.map e)] s = .ok (.bl (decide (as = bs))) s :=
  same_seq (.inr rfl) hb ty_lst ty_lst (by rw [len_lst, List.length_map]) (by rw [len_lst, List.length_map]) (fun k a q => ix_lst (at_map q)) (fun k a q => ix_lst (at_map q)) h
theorem same_ref {n : Nat} {s : S} {α : Type} [DecidableEq α] {e : α → D} {as bs : List α} {i : Nat} (hi : s[i]? = some (.lst (as.map e))) (hb : bs.length ≤ 100000) (h : ∀ a b, a ∈ as → b ∈ bs → M__law_same n [e a, e b] s = .ok (.bl (decide (a = b))) s) :
    M__law_same (n + 1) [.ref i, .lst (bs.map e)] s = .ok (.bl (decide (as = bs))) s :=
  same_seq (.inr rfl) hb (ty_ref hi) ty_lst (by rw [len_ref hi, List.length_map]) (by rw [len_lst, List.length_map]) (fun k a q => ix_ref hi (at_map q)) (fun k a q => ix_lst (at_map q)) h

/-! ### the module -/
theorem is_int_i {a : Int} {s : S} : M_is_int [.int a] s = .ok (.bl true) s := by
  unfold M_is_int B_is_int
  have i1 : isiM subZ [.int a, .ty "int"] s = .ok (.bl true) s := isi_ty ty_int rfl
  have i2 : isiM subZ [.int a, .ty "bool"] s = .ok (.bl false) s := isi_ty ty_int rfl
  simp only [mVar_e, mC_e, mNil_e, mCons_e, mOp_e, mUn_e, mChain_e, mB_e, asB_e, mAnd_e, mOr_e, mNot_e, mAndV_e, mOrV_e, mNotV_e, mIf_e, mDisp_e, mCall_e, mCallK_e, mMethL_e, noPart_e, aPart_e, mSl_e, mIter_e, rng1_e, rng2_e, mLc_e, yesM_e, mSeq_e, mNext_e, mBreak_e, mCont_e, mExpr_e, mRet_e, mRetN_e, mIfS_e, mSet_e, mSetL_e, mFor_e, mRaise_e, mFn_0, mFn_1, mFn_2, mFn_3, mFn_4, mFn_5, mFn_6, mFn_7, mFn_8, mkT_0, mkT_1, mkT_2, mkT_3, mkT_4, mkT_5, mkT_6, mkT_7, mkT_8, mkT_9, mkT_10, mkF_0, mkF_1, mkF_2, mkF_3, mkF_4, mkF_5, mkF_6, mkF_7, mkF_8, mkF_9, mkF_10, mkC_0, mkC_1, mkC_2, mkC_3, mkC_4, mkC_5, mkC_6, mkC_7, mkC_8, mkC_9, mkC_10, ne_bb, eq_bb, aPart_i, gN_e, gD_n, wipeE_nil, wipeE_cons, bind_o, bind_x, bind_b, go_o, go_x, go_b, then_nx, then_rt, then_bk, then_ct, then_ex, then_bad, forNext_nx, forNext_ct, forNext_bk, forNext_rt, forNext_ex, endR_rt, endR_nx, endR_ex, noex_ok', List.map_cons, List.map_nil, List.cons_append, List.nil_append, List.replicate_succ, List.replicate_zero, List.getElem?_cons_zero, List.getElem?_cons_succ, List.set_cons_zero, List.set_cons_succ, Nat.reduceSub, Nat.sub_self, Nat.sub_zero, if_true, if_false, Bool.false_eq_true, eq_ii, ne_ii, lt_ii, gt_ii, le_ii, ge_ii, add_ii, sub_ii, and_ii, or_ii, xor_ii, neg_i, int1_i, len_tup, len_lst, len_scr, iter_tup, iter_lst, iter_scr, asQ_tup, asQ_lst, asQ_scr, asL_lst, decide_true, decide_false, decide_eq_true_eq, Bool.not_true, Bool.not_false, reduceCtorEq, i1, i2]
theorem is_asc {xs : List Int} {s : S} (h : xs.Pairwise (· < ·)) (hl : xs.length ≤ 100000) : M_is_ascending [.tup (xs.map .int)] s = .ok (.bl true) s := by
  unfold M_is_ascending B_is_ascending
  have hz : -10 ^ 12 ≤ (xs.length : Int) - 1 ∧ (xs.length : Int) - 1 ≤ 10 ^ 12 := by omega
  have key : ∀ env : Fr, env = [some (.tup (xs.map .int)), none] → lcGo (fun _ => true) (gD (.n 1)) yesM is_ascending_e1 env ((List.range ((xs.length : Int) - 1).toNat).map fun k => D.int (k : Nat)) s = .ok ((List.range ((xs.length : Int) - 1).toNat).map fun k => .bl true) s := by
    rintro env rfl
    refine lc_map1 rfl (fun k : Nat => D.int (k : Nat)) _ fun k hk => ⟨_, gD_n, ?_⟩
    have hk' := List.mem_range.mp hk
    have x1 : ixOp (.tup (xs.map .int)) (.int (k : Nat)) s = .ok (.int xs[k]) s := ix_tup (at_map (List.getElem?_eq_getElem (by omega)))
    have x2 : ixOp (.tup (xs.map .int)) (.int ((k : Int) + 1)) s = .ok (.int xs[k + 1]) s := ix_tup (i := ((k + 1 : Nat) : Int)) (at_map (List.getElem?_eq_getElem (by omega)))
    have lt : xs[k]'(by omega) < xs[k + 1]'(by omega) := List.pairwise_iff_getElem.mp h k (k + 1) (by omega) (by omega) (by omega)
    unfold is_ascending_e1
    simp only [mVar_e, mC_e, mNil_e, mCons_e, mOp_e, mUn_e, mChain_e, mB_e, asB_e, mAnd_e, mOr_e, mNot_e, mAndV_e, mOrV_e, mNotV_e, mIf_e, mDisp_e, mCall_e, mCallK_e, mMethL_e, noPart_e, aPart_e, mSl_e, mIter_e, rng1_e, rng2_e, mLc_e, yesM_e, mSeq_e, mNext_e, mBreak_e, mCont_e, mExpr_e, mRet_e, mRetN_e, mIfS_e, mSet_e, mSetL_e, mFor_e, mRaise_e, mFn_0, mFn_1, mFn_2, mFn_3, mFn_4, mFn_5, mFn_6, mFn_7, mFn_8, mkT_0, mkT_1, mkT_2, mkT_3, mkT_4, mkT_5, mkT_6, mkT_7, mkT_8, mkT_9, mkT_10, mkF_0, mkF_1, mkF_2, mkF_3, mkF_4, mkF_5, mkF_6, mkF_7, mkF_8, mkF_9, mkF_10, mkC_0, mkC_1, mkC_2, mkC_3, mkC_4, mkC_5, mkC_6, mkC_7, mkC_8, mkC_9, mkC_10, ne_bb, eq_bb, aPart_i, gN_e, gD_n, wipeE_nil, wipeE_cons, bind_o, bind_x, bind_b, go_o, go_x, go_b, then_nx, then_rt, then_bk, then_ct, then_ex, then_bad, forNext_nx, forNext_ct, forNext_bk, forNext_rt, forNext_ex, endR_rt, endR_nx, endR_ex, noex_ok', List.map_cons, List.map_nil, List.cons_append, List.nil_append, List.replicate_succ, List.replicate_zero, List.getElem?_cons_zero, List.getElem?_cons_succ, List.set_cons_zero, List.set_cons_succ, Nat.reduceSub, Nat.sub_self, Nat.sub_zero, if_true, if_false, Bool.false_eq_true, eq_ii, ne_ii, lt_ii, gt_ii, le_ii, ge_ii, add_ii, sub_ii, and_ii, or_ii, xor_ii, neg_i, int1_i, len_tup, len_lst, len_scr, iter_tup, iter_lst, iter_scr, asQ_tup, asQ_lst, asQ_scr, asL_lst, decide_true, decide_false, decide_eq_true_eq, Bool.not_true, Bool.not_false, reduceCtorEq, x1, x2, lt]
  simp only [mVar_e, mC_e, mNil_e, mCons_e, mOp_e, mUn_e, mChain_e, mB_e, asB_e, mAnd_e, mOr_e, mNot_e, mAndV_e, mOrV_e, mNotV_e, mIf_e, mDisp_e, mCall_e, mCallK_e, mMethL_e, noPart_e, aPart_e, mSl_e, mIter_e, rng1_e, rng2_e, mLc_e, yesM_e, mSeq_e, mNext_e, mBreak_e, mCont_e, mExpr_e, mRet_e, mRetN_e, mIfS_e, mSet_e, mSetL_e, mFor_e, mRaise_e, mFn_0, mFn_1, mFn_2, mFn_3, mFn_4, mFn_5, mFn_6, mFn_7, mFn_8, mkT_0, mkT_1, mkT_2, mkT_3, mkT_4, mkT_5, mkT_6, mkT_7, mkT_8, mkT_9, mkT_10, mkF_0, mkF_1, mkF_2, mkF_3, mkF_4, mkF_5, mkF_6, mkF_7, mkF_8, mkF_9, mkF_10, mkC_0, mkC_1, mkC_2, mkC_3, mkC_4, mkC_5, mkC_6, mkC_7, mkC_8, mkC_9, mkC_10, ne_bb, eq_bb, aPart_i, gN_e, gD_n, wipeE_nil, wipeE_cons, bind_o, bind_x, bind_b, go_o, go_x, go_b, then_nx, then_rt, then_bk, then_ct, then_ex, then_bad, forNext_nx, forNext_ct, forNext_bk, forNext_rt, forNext_ex, endR_rt, endR_nx, endR_ex, noex_ok', List.map_cons, List.map_nil, List.cons_append, List.nil_append, List.replicate_succ, List.replicate_zero, List.getElem?_cons_zero, List.getElem?_cons_succ, List.set_cons_zero, List.set_cons_succ, Nat.reduceSub, Nat.sub_self, Nat.sub_zero, if_true, if_false, Bool.false_eq_true, eq_ii, ne_ii, lt_ii, gt_ii, le_ii, ge_ii, add_ii, sub_ii, and_ii, or_ii, xor_ii, neg_i, int1_i, len_tup, len_lst, len_scr, iter_tup, iter_lst, iter_scr, asQ_tup, asQ_lst, asQ_scr, asL_lst, decide_true, decide_false, decide_eq_true_eq, Bool.not_true, Bool.not_false, reduceCtorEq, List.length_map, rng_i hz, range_int, key _ rfl]
  rw [mkF_e (by rw [List.length_map, List.length_range]; exact small (by omega))]
  have e : allOp [.lst ((List.range ((xs.length : Int) - 1).toNat).map fun _ => D.bl true)] s = _ := all_map _ _
  simp only [mVar_e, mC_e, mNil_e, mCons_e, mOp_e, mUn_e, mChain_e, mB_e, asB_e, mAnd_e, mOr_e, mNot_e, mAndV_e, mOrV_e, mNotV_e, mIf_e, mDisp_e, mCall_e, mCallK_e, mMethL_e, noPart_e, aPart_e, mSl_e, mIter_e, rng1_e, rng2_e, mLc_e, yesM_e, mSeq_e, mNext_e, mBreak_e, mCont_e, mExpr_e, mRet_e, mRetN_e, mIfS_e, mSet_e, mSetL_e, mFor_e, mRaise_e, mFn_0, mFn_1, mFn_2, mFn_3, mFn_4, mFn_5, mFn_6, mFn_7, mFn_8, mkT_0, mkT_1, mkT_2, mkT_3, mkT_4, mkT_5, mkT_6, mkT_7, mkT_8, mkT_9, mkT_10, mkF_0, mkF_1, mkF_2, mkF_3, mkF_4, mkF_5, mkF_6, mkF_7, mkF_8, mkF_9, mkF_10, mkC_0, mkC_1, mkC_2, mkC_3, mkC_4, mkC_5, mkC_6, mkC_7, mkC_8, mkC_9, mkC_10, ne_bb, eq_bb, aPart_i, gN_e, gD_n, wipeE_nil, wipeE_cons, bind_o, bind_x, bind_b, go_o, go_x, go_b, then_nx, then_rt, then_bk, then_ct, then_ex, then_bad, forNext_nx, forNext_ct, forNext_bk, forNext_rt, forNext_ex, endR_rt, endR_nx, endR_ex, noex_ok', List.map_cons, List.map_nil, List.cons_append, List.nil_append, List.replicate_succ, List.replicate_zero, List.getElem?_cons_zero, List.getElem?_cons_succ, List.set_cons_zero, List.set_cons_succ, Nat.reduceSub, Nat.sub_self, Nat.sub_zero, if_true, if_false, Bool.false_eq_true, eq_ii, ne_ii, lt_ii, gt_ii, le_ii, ge_ii, add_ii, sub_ii, and_ii, or_ii, xor_ii, neg_i, int1_i, len_tup, len_lst, len_scr, iter_tup, iter_lst, iter_scr, asQ_tup, asQ_lst, asQ_scr, asL_lst, decide_true, decide_false, decide_eq_true_eq, Bool.not_true, Bool.not_false, reduceCtorEq, e]
  simp
def Lot (xs : List Int) : Prop := xs.Pairwise (· < ·) ∧ (∀ x ∈ xs, 0 ≤ x) ∧ xs.length ≤ 100000
theorem is_lot_t {xs : List Int} {s : S} (h : Lot xs) : M_is_lot [.tup (xs.map .int), .non] s = .ok (.bl true) s := by
  unfold M_is_lot B_is_lot
  have i1 : isiM subZ [.tup (xs.map .int), .ty "tuple"] s = .ok (.bl true) s := isi_ty ty_tup rfl
  have i3 : isN false .non .non s = .ok (.bl true) s := rfl
  have key : ∀ env : Fr, env = [some (.tup (xs.map .int)), some .non, none] → lcGo (fun _ => true) (gD (.n 2)) yesM is_lot_e1 env (xs.map .int) s = .ok (xs.map fun _ => .bl true) s := by
    rintro env rfl
    refine lc_map1 rfl D.int _ fun x hx => ⟨_, gD_n, ?_⟩
    unfold is_lot_e1
    simp only [mVar_e, mC_e, mNil_e, mCons_e, mOp_e, mUn_e, mChain_e, mB_e, asB_e, mAnd_e, mOr_e, mNot_e, mAndV_e, mOrV_e, mNotV_e, mIf_e, mDisp_e, mCall_e, mCallK_e, mMethL_e, noPart_e, aPart_e, mSl_e, mIter_e, rng1_e, rng2_e, mLc_e, yesM_e, mSeq_e, mNext_e, mBreak_e, mCont_e, mExpr_e, mRet_e, mRetN_e, mIfS_e, mSet_e, mSetL_e, mFor_e, mRaise_e, mFn_0, mFn_1, mFn_2, mFn_3, mFn_4, mFn_5, mFn_6, mFn_7, mFn_8, mkT_0, mkT_1, mkT_2, mkT_3, mkT_4, mkT_5, mkT_6, mkT_7, mkT_8, mkT_9, mkT_10, mkF_0, mkF_1, mkF_2, mkF_3, mkF_4, mkF_5, mkF_6, mkF_7, mkF_8, mkF_9, mkF_10, mkC_0, mkC_1, mkC_2, mkC_3, mkC_4, mkC_5, mkC_6, mkC_7, mkC_8, mkC_9, mkC_10, ne_bb, eq_bb, aPart_i, gN_e, gD_n, wipeE_nil, wipeE_cons, bind_o, bind_x, bind_b, go_o, go_x, go_b, then_nx, then_rt, then_bk, then_ct, then_ex, then_bad, forNext_nx, forNext_ct, forNext_bk, forNext_rt, forNext_ex, endR_rt, endR_nx, endR_ex, noex_ok', List.map_cons, List.map_nil, List.cons_append, List.nil_append, List.replicate_succ, List.replicate_zero, List.getElem?_cons_zero, List.getElem?_cons_succ, List.set_cons_zero, List.set_cons_succ, Nat.reduceSub, Nat.sub_self, Nat.sub_zero, if_true, if_false, Bool.false_eq_true, eq_ii, ne_ii, lt_ii, gt_ii, le_ii, ge_ii, add_ii, sub_ii, and_ii, or_ii, xor_ii, neg_i, int1_i, len_tup, len_lst, len_scr, iter_tup, iter_lst, iter_scr, asQ_tup, asQ_lst, asQ_scr, asL_lst, decide_true, decide_false, decide_eq_true_eq, Bool.not_true, Bool.not_false, reduceCtorEq, is_int_i, h.2.1 x hx]
  simp only [mVar_e, mC_e, mNil_e, mCons_e, mOp_e, mUn_e, mChain_e, mB_e, asB_e, mAnd_e, mOr_e, mNot_e, mAndV_e, mOrV_e, mNotV_e, mIf_e, mDisp_e, mCall_e, mCallK_e, mMethL_e, noPart_e, aPart_e, mSl_e, mIter_e, rng1_e, rng2_e, mLc_e, yesM_e, mSeq_e, mNext_e, mBreak_e, mCont_e, mExpr_e, mRet_e, mRetN_e, mIfS_e, mSet_e, mSetL_e, mFor_e, mRaise_e, mFn_0, mFn_1, mFn_2, mFn_3, mFn_4, mFn_5, mFn_6, mFn_7, mFn_8, mkT_0, mkT_1, mkT_2, mkT_3, mkT_4, mkT_5, mkT_6, mkT_7, mkT_8, mkT_9, mkT_10, mkF_0, mkF_1, mkF_2, mkF_3, mkF_4, mkF_5, mkF_6, mkF_7, mkF_8, mkF_9, mkF_10, mkC_0, mkC_1, mkC_2, mkC_3, mkC_4, mkC_5, mkC_6, mkC_7, mkC_8, mkC_9, mkC_10, ne_bb, eq_bb, aPart_i, gN_e, gD_n, wipeE_nil, wipeE_cons, bind_o, bind_x, bind_b, go_o, go_x, go_b, then_nx, then_rt, then_bk, then_ct, then_ex, then_bad, forNext_nx, forNext_ct, forNext_bk, forNext_rt, forNext_ex, endR_rt, endR_nx, endR_ex, noex_ok', List.map_cons, List.map_nil, List.cons_append, List.nil_append, List.replicate_succ, List.replicate_zero, List.getElem?_cons_zero, List.getElem?_cons_succ, List.set_cons_zero, List.set_cons_succ, Nat.reduceSub, Nat.sub_self, Nat.sub_zero, if_true, if_false, Bool.false_eq_true, eq_ii, ne_ii, lt_ii, gt_ii, le_ii, ge_ii, add_ii, sub_ii, and_ii, or_ii, xor_ii, neg_i, int1_i, len_tup, len_lst, len_scr, iter_tup, iter_lst, iter_scr, asQ_tup, asQ_lst, asQ_scr, asL_lst, decide_true, decide_false, decide_eq_true_eq, Bool.not_true, Bool.not_false, reduceCtorEq, i1, key _ rfl]
  rw [mkF_e (by rw [List.length_map]; exact small h.2.2)]
  have e : allOp [.lst (xs.map fun _ => D.bl true)] s = .ok (.bl true) s := (all_map _ _).trans (by simp)
  simp only [mVar_e, mC_e, mNil_e, mCons_e, mOp_e, mUn_e, mChain_e, mB_e, asB_e, mAnd_e, mOr_e, mNot_e, mAndV_e, mOrV_e, mNotV_e, mIf_e, mDisp_e, mCall_e, mCallK_e, mMethL_e, noPart_e, aPart_e, mSl_e, mIter_e, rng1_e, rng2_e, mLc_e, yesM_e, mSeq_e, mNext_e, mBreak_e, mCont_e, mExpr_e, mRet_e, mRetN_e, mIfS_e, mSet_e, mSetL_e, mFor_e, mRaise_e, mFn_0, mFn_1, mFn_2, mFn_3, mFn_4, mFn_5, mFn_6, mFn_7, mFn_8, mkT_0, mkT_1, mkT_2, mkT_3, mkT_4, mkT_5, mkT_6, mkT_7, mkT_8, mkT_9, mkT_10, mkF_0, mkF_1, mkF_2, mkF_3, mkF_4, mkF_5, mkF_6, mkF_7, mkF_8, mkF_9, mkF_10, mkC_0, mkC_1, mkC_2, mkC_3, mkC_4, mkC_5, mkC_6, mkC_7, mkC_8, mkC_9, mkC_10, ne_bb, eq_bb, aPart_i, gN_e, gD_n, wipeE_nil, wipeE_cons, bind_o, bind_x, bind_b, go_o, go_x, go_b, then_nx, then_rt, then_bk, then_ct, then_ex, then_bad, forNext_nx, forNext_ct, forNext_bk, forNext_rt, forNext_ex, endR_rt, endR_nx, endR_ex, noex_ok', List.map_cons, List.map_nil, List.cons_append, List.nil_append, List.replicate_succ, List.replicate_zero, List.getElem?_cons_zero, List.getElem?_cons_succ, List.set_cons_zero, List.set_cons_succ, Nat.reduceSub, Nat.sub_self, Nat.sub_zero, if_true, if_false, Bool.false_eq_true, eq_ii, ne_ii, lt_ii, gt_ii, le_ii, ge_ii, add_ii, sub_ii, and_ii, or_ii, xor_ii, neg_i, int1_i, len_tup, len_lst, len_scr, iter_tup, iter_lst, iter_scr, asQ_tup, asQ_lst, asQ_scr, asL_lst, decide_true, decide_false, decide_eq_true_eq, Bool.not_true, Bool.not_false, reduceCtorEq, e, is_asc h.1 h.2.2, i3]
theorem check_lot_t {xs : List Int} {s : S} (h : Lot xs) : M_check_lot [.tup (xs.map .int), .non] s = .ok .non s := by
  unfold M_check_lot B_check_lot
  simp only [mVar_e, mC_e, mNil_e, mCons_e, mOp_e, mUn_e, mChain_e, mB_e, asB_e, mAnd_e, mOr_e, mNot_e, mAndV_e, mOrV_e, mNotV_e, mIf_e, mDisp_e, mCall_e, mCallK_e, mMethL_e, noPart_e, aPart_e, mSl_e, mIter_e, rng1_e, rng2_e, mLc_e, yesM_e, mSeq_e, mNext_e, mBreak_e, mCont_e, mExpr_e, mRet_e, mRetN_e, mIfS_e, mSet_e, mSetL_e, mFor_e, mRaise_e, mFn_0, mFn_1, mFn_2, mFn_3, mFn_4, mFn_5, mFn_6, mFn_7, mFn_8, mkT_0, mkT_1, mkT_2, mkT_3, mkT_4, mkT_5, mkT_6, mkT_7, mkT_8, mkT_9, mkT_10, mkF_0, mkF_1, mkF_2, mkF_3, mkF_4, mkF_5, mkF_6, mkF_7, mkF_8, mkF_9, mkF_10, mkC_0, mkC_1, mkC_2, mkC_3, mkC_4, mkC_5, mkC_6, mkC_7, mkC_8, mkC_9, mkC_10, ne_bb, eq_bb, aPart_i, gN_e, gD_n, wipeE_nil, wipeE_cons, bind_o, bind_x, bind_b, go_o, go_x, go_b, then_nx, then_rt, then_bk, then_ct, then_ex, then_bad, forNext_nx, forNext_ct, forNext_bk, forNext_rt, forNext_ex, endR_rt, endR_nx, endR_ex, noex_ok', List.map_cons, List.map_nil, List.cons_append, List.nil_append, List.replicate_succ, List.replicate_zero, List.getElem?_cons_zero, List.getElem?_cons_succ, List.set_cons_zero, List.set_cons_succ, Nat.reduceSub, Nat.sub_self, Nat.sub_zero, if_true, if_false, Bool.false_eq_true, eq_ii, ne_ii, lt_ii, gt_ii, le_ii, ge_ii, add_ii, sub_ii, and_ii, or_ii, xor_ii, neg_i, int1_i, len_tup, len_lst, len_scr, iter_tup, iter_lst, iter_scr, asQ_tup, asQ_lst, asQ_scr, asL_lst, decide_true, decide_false, decide_eq_true_eq, Bool.not_true, Bool.not_false, reduceCtorEq, is_lot_t h]
/-- two of three -/
def maj (a b c : Bool) : Bool := (a && b) || (a && c) || (b && c)
def midL (a b c : List Int) : List Int := sortL (a.filter (fun x => decide (x ∈ b) || decide (x ∈ c)) ++ b.filter (fun x => decide (x ∈ c) && !decide (x ∈ a)))
theorem raw_mid {a b c : List Int} {s : S} (ha : a.length ≤ 1000) (hb : b.length ≤ 1000) : M_raw_middle [.tup (a.map .int), .tup (b.map .int), .tup (c.map .int)] s = .ok (.tup ((midL a b c).map .int)) s := by
  unfold M_raw_middle B_raw_middle
  have k1 : ∀ env : Fr, env = [some (.tup (a.map .int)), some (.tup (b.map .int)), some (.tup (c.map .int)), none, none] → lcGo (fun _ => true) (gD (.n 4)) raw_middle_t1 (mVar 4) env (a.map .int) s = .ok ((a.filter fun x => decide (x ∈ b) || decide (x ∈ c)).map .int) s := by
    rintro env rfl
    refine lc_map rfl D.int _ D.int fun x hx => ⟨_, gD_n, ?_, fun _ => ?_⟩
    · unfold raw_middle_t1
      simp only [mVar_e, mC_e, mNil_e, mCons_e, mOp_e, mUn_e, mChain_e, mB_e, asB_e, mAnd_e, mOr_e, mNot_e, mAndV_e, mOrV_e, mNotV_e, mIf_e, mDisp_e, mCall_e, mCallK_e, mMethL_e, noPart_e, aPart_e, mSl_e, mIter_e, rng1_e, rng2_e, mLc_e, yesM_e, mSeq_e, mNext_e, mBreak_e, mCont_e, mExpr_e, mRet_e, mRetN_e, mIfS_e, mSet_e, mSetL_e, mFor_e, mRaise_e, mFn_0, mFn_1, mFn_2, mFn_3, mFn_4, mFn_5, mFn_6, mFn_7, mFn_8, mkT_0, mkT_1, mkT_2, mkT_3, mkT_4, mkT_5, mkT_6, mkT_7, mkT_8, mkT_9, mkT_10, mkF_0, mkF_1, mkF_2, mkF_3, mkF_4, mkF_5, mkF_6, mkF_7, mkF_8, mkF_9, mkF_10, mkC_0, mkC_1, mkC_2, mkC_3, mkC_4, mkC_5, mkC_6, mkC_7, mkC_8, mkC_9, mkC_10, ne_bb, eq_bb, aPart_i, gN_e, gD_n, wipeE_nil, wipeE_cons, bind_o, bind_x, bind_b, go_o, go_x, go_b, then_nx, then_rt, then_bk, then_ct, then_ex, then_bad, forNext_nx, forNext_ct, forNext_bk, forNext_rt, forNext_ex, endR_rt, endR_nx, endR_ex, noex_ok', List.map_cons, List.map_nil, List.cons_append, List.nil_append, List.replicate_succ, List.replicate_zero, List.getElem?_cons_zero, List.getElem?_cons_succ, List.set_cons_zero, List.set_cons_succ, Nat.reduceSub, Nat.sub_self, Nat.sub_zero, if_true, if_false, Bool.false_eq_true, eq_ii, ne_ii, lt_ii, gt_ii, le_ii, ge_ii, add_ii, sub_ii, and_ii, or_ii, xor_ii, neg_i, int1_i, len_tup, len_lst, len_scr, iter_tup, iter_lst, iter_scr, asQ_tup, asQ_lst, asQ_scr, asL_lst, decide_true, decide_false, decide_eq_true_eq, Bool.not_true, Bool.not_false, reduceCtorEq, in_it]
      by_cases h1 : x ∈ b <;> simp [h1]
    · simp only [mVar_e, mC_e, mNil_e, mCons_e, mOp_e, mUn_e, mChain_e, mB_e, asB_e, mAnd_e, mOr_e, mNot_e, mAndV_e, mOrV_e, mNotV_e, mIf_e, mDisp_e, mCall_e, mCallK_e, mMethL_e, noPart_e, aPart_e, mSl_e, mIter_e, rng1_e, rng2_e, mLc_e, yesM_e, mSeq_e, mNext_e, mBreak_e, mCont_e, mExpr_e, mRet_e, mRetN_e, mIfS_e, mSet_e, mSetL_e, mFor_e, mRaise_e, mFn_0, mFn_1, mFn_2, mFn_3, mFn_4, mFn_5, mFn_6, mFn_7, mFn_8, mkT_0, mkT_1, mkT_2, mkT_3, mkT_4, mkT_5, mkT_6, mkT_7, mkT_8, mkT_9, mkT_10, mkF_0, mkF_1, mkF_2, mkF_3, mkF_4, mkF_5, mkF_6, mkF_7, mkF_8, mkF_9, mkF_10, mkC_0, mkC_1, mkC_2, mkC_3, mkC_4, mkC_5, mkC_6, mkC_7, mkC_8, mkC_9, mkC_10, ne_bb, eq_bb, aPart_i, gN_e, gD_n, wipeE_nil, wipeE_cons, bind_o, bind_x, bind_b, go_o, go_x, go_b, then_nx, then_rt, then_bk, then_ct, then_ex, then_bad, forNext_nx, forNext_ct, forNext_bk, forNext_rt, forNext_ex, endR_rt, endR_nx, endR_ex, noex_ok', List.map_cons, List.map_nil, List.cons_append, List.nil_append, List.replicate_succ, List.replicate_zero, List.getElem?_cons_zero, List.getElem?_cons_succ, List.set_cons_zero, List.set_cons_succ, Nat.reduceSub, Nat.sub_self, Nat.sub_zero, if_true, if_false, Bool.false_eq_true, eq_ii, ne_ii, lt_ii, gt_ii, le_ii, ge_ii, add_ii, sub_ii, and_ii, or_ii, xor_ii, neg_i, int1_i, len_tup, len_lst, len_scr, iter_tup, iter_lst, iter_scr, asQ_tup, asQ_lst, asQ_scr, asL_lst, decide_true, decide_false, decide_eq_true_eq, Bool.not_true, Bool.not_false, reduceCtorEq]
  have k2 : ∀ (env : Fr) (o : Option D), env = [some (.tup (a.map .int)), some (.tup (b.map .int)), some (.tup (c.map .int)), o, none] → lcGo (fun _ => true) (gD (.n 4)) raw_middle_t2 (mVar 4) env (b.map .int) s = .ok ((b.filter fun x => decide (x ∈ c) && !decide (x ∈ a)).map .int) s := by
    rintro env o rfl
    refine lc_map rfl D.int _ D.int fun x hx => ⟨_, gD_n, ?_, fun _ => ?_⟩
    · unfold raw_middle_t2
      simp only [mVar_e, mC_e, mNil_e, mCons_e, mOp_e, mUn_e, mChain_e, mB_e, asB_e, mAnd_e, mOr_e, mNot_e, mAndV_e, mOrV_e, mNotV_e, mIf_e, mDisp_e, mCall_e, mCallK_e, mMethL_e, noPart_e, aPart_e, mSl_e, mIter_e, rng1_e, rng2_e, mLc_e, yesM_e, mSeq_e, mNext_e, mBreak_e, mCont_e, mExpr_e, mRet_e, mRetN_e, mIfS_e, mSet_e, mSetL_e, mFor_e, mRaise_e, mFn_0, mFn_1, mFn_2, mFn_3, mFn_4, mFn_5, mFn_6, mFn_7, mFn_8, mkT_0, mkT_1, mkT_2, mkT_3, mkT_4, mkT_5, mkT_6, mkT_7, mkT_8, mkT_9, mkT_10, mkF_0, mkF_1, mkF_2, mkF_3, mkF_4, mkF_5, mkF_6, mkF_7, mkF_8, mkF_9, mkF_10, mkC_0, mkC_1, mkC_2, mkC_3, mkC_4, mkC_5, mkC_6, mkC_7, mkC_8, mkC_9, mkC_10, ne_bb, eq_bb, aPart_i, gN_e, gD_n, wipeE_nil, wipeE_cons, bind_o, bind_x, bind_b, go_o, go_x, go_b, then_nx, then_rt, then_bk, then_ct, then_ex, then_bad, forNext_nx, forNext_ct, forNext_bk, forNext_rt, forNext_ex, endR_rt, endR_nx, endR_ex, noex_ok', List.map_cons, List.map_nil, List.cons_append, List.nil_append, List.replicate_succ, List.replicate_zero, List.getElem?_cons_zero, List.getElem?_cons_succ, List.set_cons_zero, List.set_cons_succ, Nat.reduceSub, Nat.sub_self, Nat.sub_zero, if_true, if_false, Bool.false_eq_true, eq_ii, ne_ii, lt_ii, gt_ii, le_ii, ge_ii, add_ii, sub_ii, and_ii, or_ii, xor_ii, neg_i, int1_i, len_tup, len_lst, len_scr, iter_tup, iter_lst, iter_scr, asQ_tup, asQ_lst, asQ_scr, asL_lst, decide_true, decide_false, decide_eq_true_eq, Bool.not_true, Bool.not_false, reduceCtorEq, in_it, notIn_it]
      by_cases h1 : x ∈ c <;> simp [h1]
    · simp only [mVar_e, mC_e, mNil_e, mCons_e, mOp_e, mUn_e, mChain_e, mB_e, asB_e, mAnd_e, mOr_e, mNot_e, mAndV_e, mOrV_e, mNotV_e, mIf_e, mDisp_e, mCall_e, mCallK_e, mMethL_e, noPart_e, aPart_e, mSl_e, mIter_e, rng1_e, rng2_e, mLc_e, yesM_e, mSeq_e, mNext_e, mBreak_e, mCont_e, mExpr_e, mRet_e, mRetN_e, mIfS_e, mSet_e, mSetL_e, mFor_e, mRaise_e, mFn_0, mFn_1, mFn_2, mFn_3, mFn_4, mFn_5, mFn_6, mFn_7, mFn_8, mkT_0, mkT_1, mkT_2, mkT_3, mkT_4, mkT_5, mkT_6, mkT_7, mkT_8, mkT_9, mkT_10, mkF_0, mkF_1, mkF_2, mkF_3, mkF_4, mkF_5, mkF_6, mkF_7, mkF_8, mkF_9, mkF_10, mkC_0, mkC_1, mkC_2, mkC_3, mkC_4, mkC_5, mkC_6, mkC_7, mkC_8, mkC_9, mkC_10, ne_bb, eq_bb, aPart_i, gN_e, gD_n, wipeE_nil, wipeE_cons, bind_o, bind_x, bind_b, go_o, go_x, go_b, then_nx, then_rt, then_bk, then_ct, then_ex, then_bad, forNext_nx, forNext_ct, forNext_bk, forNext_rt, forNext_ex, endR_rt, endR_nx, endR_ex, noex_ok', List.map_cons, List.map_nil, List.cons_append, List.nil_append, List.replicate_succ, List.replicate_zero, List.getElem?_cons_zero, List.getElem?_cons_succ, List.set_cons_zero, List.set_cons_succ, Nat.reduceSub, Nat.sub_self, Nat.sub_zero, if_true, if_false, Bool.false_eq_true, eq_ii, ne_ii, lt_ii, gt_ii, le_ii, ge_ii, add_ii, sub_ii, and_ii, or_ii, xor_ii, neg_i, int1_i, len_tup, len_lst, len_scr, iter_tup, iter_lst, iter_scr, asQ_tup, asQ_lst, asQ_scr, asL_lst, decide_true, decide_false, decide_eq_true_eq, Bool.not_true, Bool.not_false, reduceCtorEq]
  have l1 := List.length_filter_le (fun x => decide (x ∈ b) || decide (x ∈ c)) a
  have l2 := List.length_filter_le (fun x => decide (x ∈ c) && !decide (x ∈ a)) b
  simp only [mVar_e, mC_e, mNil_e, mCons_e, mOp_e, mUn_e, mChain_e, mB_e, asB_e, mAnd_e, mOr_e, mNot_e, mAndV_e, mOrV_e, mNotV_e, mIf_e, mDisp_e, mCall_e, mCallK_e, mMethL_e, noPart_e, aPart_e, mSl_e, mIter_e, rng1_e, rng2_e, mLc_e, yesM_e, mSeq_e, mNext_e, mBreak_e, mCont_e, mExpr_e, mRet_e, mRetN_e, mIfS_e, mSet_e, mSetL_e, mFor_e, mRaise_e, mFn_0, mFn_1, mFn_2, mFn_3, mFn_4, mFn_5, mFn_6, mFn_7, mFn_8, mkT_0, mkT_1, mkT_2, mkT_3, mkT_4, mkT_5, mkT_6, mkT_7, mkT_8, mkT_9, mkT_10, mkF_0, mkF_1, mkF_2, mkF_3, mkF_4, mkF_5, mkF_6, mkF_7, mkF_8, mkF_9, mkF_10, mkC_0, mkC_1, mkC_2, mkC_3, mkC_4, mkC_5, mkC_6, mkC_7, mkC_8, mkC_9, mkC_10, ne_bb, eq_bb, aPart_i, gN_e, gD_n, wipeE_nil, wipeE_cons, bind_o, bind_x, bind_b, go_o, go_x, go_b, then_nx, then_rt, then_bk, then_ct, then_ex, then_bad, forNext_nx, forNext_ct, forNext_bk, forNext_rt, forNext_ex, endR_rt, endR_nx, endR_ex, noex_ok', List.map_cons, List.map_nil, List.cons_append, List.nil_append, List.replicate_succ, List.replicate_zero, List.getElem?_cons_zero, List.getElem?_cons_succ, List.set_cons_zero, List.set_cons_succ, Nat.reduceSub, Nat.sub_self, Nat.sub_zero, if_true, if_false, Bool.false_eq_true, eq_ii, ne_ii, lt_ii, gt_ii, le_ii, ge_ii, add_ii, sub_ii, and_ii, or_ii, xor_ii, neg_i, int1_i, len_tup, len_lst, len_scr, iter_tup, iter_lst, iter_scr, asQ_tup, asQ_lst, asQ_scr, asL_lst, decide_true, decide_false, decide_eq_true_eq, Bool.not_true, Bool.not_false, reduceCtorEq, k1 _ rfl]
  rw [mkF_e (by rw [List.length_map]; exact small (by omega))]
  simp only [mVar_e, mC_e, mNil_e, mCons_e, mOp_e, mUn_e, mChain_e, mB_e, asB_e, mAnd_e, mOr_e, mNot_e, mAndV_e, mOrV_e, mNotV_e, mIf_e, mDisp_e, mCall_e, mCallK_e, mMethL_e, noPart_e, aPart_e, mSl_e, mIter_e, rng1_e, rng2_e, mLc_e, yesM_e, mSeq_e, mNext_e, mBreak_e, mCont_e, mExpr_e, mRet_e, mRetN_e, mIfS_e, mSet_e, mSetL_e, mFor_e, mRaise_e, mFn_0, mFn_1, mFn_2, mFn_3, mFn_4, mFn_5, mFn_6, mFn_7, mFn_8, mkT_0, mkT_1, mkT_2, mkT_3, mkT_4, mkT_5, mkT_6, mkT_7, mkT_8, mkT_9, mkT_10, mkF_0, mkF_1, mkF_2, mkF_3, mkF_4, mkF_5, mkF_6, mkF_7, mkF_8, mkF_9, mkF_10, mkC_0, mkC_1, mkC_2, mkC_3, mkC_4, mkC_5, mkC_6, mkC_7, mkC_8, mkC_9, mkC_10, ne_bb, eq_bb, aPart_i, gN_e, gD_n, wipeE_nil, wipeE_cons, bind_o, bind_x, bind_b, go_o, go_x, go_b, then_nx, then_rt, then_bk, then_ct, then_ex, then_bad, forNext_nx, forNext_ct, forNext_bk, forNext_rt, forNext_ex, endR_rt, endR_nx, endR_ex, noex_ok', List.map_cons, List.map_nil, List.cons_append, List.nil_append, List.replicate_succ, List.replicate_zero, List.getElem?_cons_zero, List.getElem?_cons_succ, List.set_cons_zero, List.set_cons_succ, Nat.reduceSub, Nat.sub_self, Nat.sub_zero, if_true, if_false, Bool.false_eq_true, eq_ii, ne_ii, lt_ii, gt_ii, le_ii, ge_ii, add_ii, sub_ii, and_ii, or_ii, xor_ii, neg_i, int1_i, len_tup, len_lst, len_scr, iter_tup, iter_lst, iter_scr, asQ_tup, asQ_lst, asQ_scr, asL_lst, decide_true, decide_false, decide_eq_true_eq, Bool.not_true, Bool.not_false, reduceCtorEq, k2 _ _ rfl]
  rw [mkF_e (by rw [List.length_map]; exact small (by omega))]
  simp only [mVar_e, mC_e, mNil_e, mCons_e, mOp_e, mUn_e, mChain_e, mB_e, asB_e, mAnd_e, mOr_e, mNot_e, mAndV_e, mOrV_e, mNotV_e, mIf_e, mDisp_e, mCall_e, mCallK_e, mMethL_e, noPart_e, aPart_e, mSl_e, mIter_e, rng1_e, rng2_e, mLc_e, yesM_e, mSeq_e, mNext_e, mBreak_e, mCont_e, mExpr_e, mRet_e, mRetN_e, mIfS_e, mSet_e, mSetL_e, mFor_e, mRaise_e, mFn_0, mFn_1, mFn_2, mFn_3, mFn_4, mFn_5, mFn_6, mFn_7, mFn_8, mkT_0, mkT_1, mkT_2, mkT_3, mkT_4, mkT_5, mkT_6, mkT_7, mkT_8, mkT_9, mkT_10, mkF_0, mkF_1, mkF_2, mkF_3, mkF_4, mkF_5, mkF_6, mkF_7, mkF_8, mkF_9, mkF_10, mkC_0, mkC_1, mkC_2, mkC_3, mkC_4, mkC_5, mkC_6, mkC_7, mkC_8, mkC_9, mkC_10, ne_bb, eq_bb, aPart_i, gN_e, gD_n, wipeE_nil, wipeE_cons, bind_o, bind_x, bind_b, go_o, go_x, go_b, then_nx, then_rt, then_bk, then_ct, then_ex, then_bad, forNext_nx, forNext_ct, forNext_bk, forNext_rt, forNext_ex, endR_rt, endR_nx, endR_ex, noex_ok', List.map_cons, List.map_nil, List.cons_append, List.nil_append, List.replicate_succ, List.replicate_zero, List.getElem?_cons_zero, List.getElem?_cons_succ, List.set_cons_zero, List.set_cons_succ, Nat.reduceSub, Nat.sub_self, Nat.sub_zero, if_true, if_false, Bool.false_eq_true, eq_ii, ne_ii, lt_ii, gt_ii, le_ii, ge_ii, add_ii, sub_ii, and_ii, or_ii, xor_ii, neg_i, int1_i, len_tup, len_lst, len_scr, iter_tup, iter_lst, iter_scr, asQ_tup, asQ_lst, asQ_scr, asL_lst, decide_true, decide_false, decide_eq_true_eq, Bool.not_true, Bool.not_false, reduceCtorEq]
  have ad : addOp mkF (.lst ((a.filter fun x => decide (x ∈ b) || decide (x ∈ c)).map .int)) (.lst ((b.filter fun x => decide (x ∈ c) && !decide (x ∈ a)).map .int)) s = mkF ((a.filter fun x => decide (x ∈ b) || decide (x ∈ c)).map .int ++ (b.filter fun x => decide (x ∈ c) && !decide (x ∈ a)).map .int) s := rfl
  rw [ad, mkF_e (by rw [List.length_append, List.length_map, List.length_map]; exact small (by omega))]
  simp only [mVar_e, mC_e, mNil_e, mCons_e, mOp_e, mUn_e, mChain_e, mB_e, asB_e, mAnd_e, mOr_e, mNot_e, mAndV_e, mOrV_e, mNotV_e, mIf_e, mDisp_e, mCall_e, mCallK_e, mMethL_e, noPart_e, aPart_e, mSl_e, mIter_e, rng1_e, rng2_e, mLc_e, yesM_e, mSeq_e, mNext_e, mBreak_e, mCont_e, mExpr_e, mRet_e, mRetN_e, mIfS_e, mSet_e, mSetL_e, mFor_e, mRaise_e, mFn_0, mFn_1, mFn_2, mFn_3, mFn_4, mFn_5, mFn_6, mFn_7, mFn_8, mkT_0, mkT_1, mkT_2, mkT_3, mkT_4, mkT_5, mkT_6, mkT_7, mkT_8, mkT_9, mkT_10, mkF_0, mkF_1, mkF_2, mkF_3, mkF_4, mkF_5, mkF_6, mkF_7, mkF_8, mkF_9, mkF_10, mkC_0, mkC_1, mkC_2, mkC_3, mkC_4, mkC_5, mkC_6, mkC_7, mkC_8, mkC_9, mkC_10, ne_bb, eq_bb, aPart_i, gN_e, gD_n, wipeE_nil, wipeE_cons, bind_o, bind_x, bind_b, go_o, go_x, go_b, then_nx, then_rt, then_bk, then_ct, then_ex, then_bad, forNext_nx, forNext_ct, forNext_bk, forNext_rt, forNext_ex, endR_rt, endR_nx, endR_ex, noex_ok', List.map_cons, List.map_nil, List.cons_append, List.nil_append, List.replicate_succ, List.replicate_zero, List.getElem?_cons_zero, List.getElem?_cons_succ, List.set_cons_zero, List.set_cons_succ, Nat.reduceSub, Nat.sub_self, Nat.sub_zero, if_true, if_false, Bool.false_eq_true, eq_ii, ne_ii, lt_ii, gt_ii, le_ii, ge_ii, add_ii, sub_ii, and_ii, or_ii, xor_ii, neg_i, int1_i, len_tup, len_lst, len_scr, iter_tup, iter_lst, iter_scr, asQ_tup, asQ_lst, asQ_scr, asL_lst, decide_true, decide_false, decide_eq_true_eq, Bool.not_true, Bool.not_false, reduceCtorEq]
  rw [← List.map_append, sort_lst, mkF_e (by rw [List.length_map, (sortL_perm _).length_eq, List.length_append]; exact small (by omega))]
  simp only [mVar_e, mC_e, mNil_e, mCons_e, mOp_e, mUn_e, mChain_e, mB_e, asB_e, mAnd_e, mOr_e, mNot_e, mAndV_e, mOrV_e, mNotV_e, mIf_e, mDisp_e, mCall_e, mCallK_e, mMethL_e, noPart_e, aPart_e, mSl_e, mIter_e, rng1_e, rng2_e, mLc_e, yesM_e, mSeq_e, mNext_e, mBreak_e, mCont_e, mExpr_e, mRet_e, mRetN_e, mIfS_e, mSet_e, mSetL_e, mFor_e, mRaise_e, mFn_0, mFn_1, mFn_2, mFn_3, mFn_4, mFn_5, mFn_6, mFn_7, mFn_8, mkT_0, mkT_1, mkT_2, mkT_3, mkT_4, mkT_5, mkT_6, mkT_7, mkT_8, mkT_9, mkT_10, mkF_0, mkF_1, mkF_2, mkF_3, mkF_4, mkF_5, mkF_6, mkF_7, mkF_8, mkF_9, mkF_10, mkC_0, mkC_1, mkC_2, mkC_3, mkC_4, mkC_5, mkC_6, mkC_7, mkC_8, mkC_9, mkC_10, ne_bb, eq_bb, aPart_i, gN_e, gD_n, wipeE_nil, wipeE_cons, bind_o, bind_x, bind_b, go_o, go_x, go_b, then_nx, then_rt, then_bk, then_ct, then_ex, then_bad, forNext_nx, forNext_ct, forNext_bk, forNext_rt, forNext_ex, endR_rt, endR_nx, endR_ex, noex_ok', List.map_cons, List.map_nil, List.cons_append, List.nil_append, List.replicate_succ, List.replicate_zero, List.getElem?_cons_zero, List.getElem?_cons_succ, List.set_cons_zero, List.set_cons_succ, Nat.reduceSub, Nat.sub_self, Nat.sub_zero, if_true, if_false, Bool.false_eq_true, eq_ii, ne_ii, lt_ii, gt_ii, le_ii, ge_ii, add_ii, sub_ii, and_ii, or_ii, xor_ii, neg_i, int1_i, len_tup, len_lst, len_scr, iter_tup, iter_lst, iter_scr, asQ_tup, asQ_lst, asQ_scr, asL_lst, decide_true, decide_false, decide_eq_true_eq, Bool.not_true, Bool.not_false, reduceCtorEq]
  rw [tuple_lst (by rw [List.length_map, (sortL_perm _).length_eq, List.length_append]; exact small (by omega))]
  rfl
theorem mem_mid {a b c : List Int} {k : Int} : k ∈ midL a b c ↔ maj (decide (k ∈ a)) (decide (k ∈ b)) (decide (k ∈ c)) = true := by
  unfold midL maj
  rw [mem_sortL, List.mem_append, List.mem_filter, List.mem_filter]
  by_cases h1 : k ∈ a <;> by_cases h2 : k ∈ b <;> by_cases h3 : k ∈ c <;> simp [h1, h2, h3]
theorem asc_mid {a b c : List Int} (ha : a.Pairwise (· < ·)) (hb : b.Pairwise (· < ·)) : (midL a b c).Pairwise (· < ·) := by
  refine sortL_lt (List.nodup_append.mpr ⟨(asc_nodup ha).filter _, (asc_nodup hb).filter _, fun x hx y hy e => ?_⟩)
  subst e
  have h1 := (List.mem_filter.mp hx).1
  have h2 := (List.mem_filter.mp hy).2
  simp [h1] at h2
theorem mid_is {a b c : List Int} {s : S} (ha : Lot a) (hb : Lot b) (hc : Lot c) (la : a.length ≤ 1000) (lb : b.length ≤ 1000) : M_middle [.tup (a.map .int), .tup (b.map .int), .tup (c.map .int)] s = .ok (.tup ((midL a b c).map .int)) s := by
  unfold M_middle B_middle
  simp only [mVar_e, mC_e, mNil_e, mCons_e, mOp_e, mUn_e, mChain_e, mB_e, asB_e, mAnd_e, mOr_e, mNot_e, mAndV_e, mOrV_e, mNotV_e, mIf_e, mDisp_e, mCall_e, mCallK_e, mMethL_e, noPart_e, aPart_e, mSl_e, mIter_e, rng1_e, rng2_e, mLc_e, yesM_e, mSeq_e, mNext_e, mBreak_e, mCont_e, mExpr_e, mRet_e, mRetN_e, mIfS_e, mSet_e, mSetL_e, mFor_e, mRaise_e, mFn_0, mFn_1, mFn_2, mFn_3, mFn_4, mFn_5, mFn_6, mFn_7, mFn_8, mkT_0, mkT_1, mkT_2, mkT_3, mkT_4, mkT_5, mkT_6, mkT_7, mkT_8, mkT_9, mkT_10, mkF_0, mkF_1, mkF_2, mkF_3, mkF_4, mkF_5, mkF_6, mkF_7, mkF_8, mkF_9, mkF_10, mkC_0, mkC_1, mkC_2, mkC_3, mkC_4, mkC_5, mkC_6, mkC_7, mkC_8, mkC_9, mkC_10, ne_bb, eq_bb, aPart_i, gN_e, gD_n, wipeE_nil, wipeE_cons, bind_o, bind_x, bind_b, go_o, go_x, go_b, then_nx, then_rt, then_bk, then_ct, then_ex, then_bad, forNext_nx, forNext_ct, forNext_bk, forNext_rt, forNext_ex, endR_rt, endR_nx, endR_ex, noex_ok', List.map_cons, List.map_nil, List.cons_append, List.nil_append, List.replicate_succ, List.replicate_zero, List.getElem?_cons_zero, List.getElem?_cons_succ, List.set_cons_zero, List.set_cons_succ, Nat.reduceSub, Nat.sub_self, Nat.sub_zero, if_true, if_false, Bool.false_eq_true, eq_ii, ne_ii, lt_ii, gt_ii, le_ii, ge_ii, add_ii, sub_ii, and_ii, or_ii, xor_ii, neg_i, int1_i, len_tup, len_lst, len_scr, iter_tup, iter_lst, iter_scr, asQ_tup, asQ_lst, asQ_scr, asL_lst, decide_true, decide_false, decide_eq_true_eq, Bool.not_true, Bool.not_false, reduceCtorEq, check_lot_t ha, check_lot_t hb, check_lot_t hc, raw_mid la lb]

/-! ### the law -/
def WellC (n : Nat) (c : Cell) : Prop := ∃ b x h : Int, c = .lst [.int b, .int x, .int h] ∧ 0 ≤ x ∧ x ≤ n ∧ 0 ≤ h ∧ h < 10 ^ 25
theorem same_is {i : Nat} {s s' : S} {c : Cell} (h : Same i s s') (hc : s'[i]? = some c) : s' = s.set i c := by
  refine List.ext_getElem? fun j => ?_
  by_cases e : j = i
  · subst e
    have hl := (List.getElem?_eq_some_iff.mp hc).1
    rw [hc, List.getElem?_set_self (by rw [← h.len]; exact hl)]
  · rw [h.at_ j e, List.getElem?_set_ne (Ne.symm e)]
theorem dipS {n : Nat} {S0 rest : S} {c : Cell} {k : Int} (w : WellC n c) (hn : n < 1000000000) (hk : 0 < k) (hk2 : k.natAbs.log2 < 9000) : ∃ v c', M__law_dip [.ref (S0.length + 0), .int k] (S0 ++ c :: rest) = .ok (.int v) (S0 ++ c' :: rest) ∧ 0 ≤ v ∧ v < k ∧ WellC (n + 1) c' := by
  obtain ⟨b, x, h, rfl, h1, h2, h3, h4⟩ := w
  have hw : Well n (S0 ++ Cell.lst [.int b, .int x, .int h] :: rest) (S0.length + 0) := ⟨b, x, h, by rw [at_off]; rfl, h1, h2, h3, h4⟩
  obtain ⟨v, s', e, v1, v2, ⟨b', x', h', g, g1, g2, g3, g4⟩, sm⟩ := dip hw hn hk hk2
  refine ⟨v, _, ?_, v1, v2, b', x', h', rfl, g1, g2, g3, g4⟩
  rw [e, same_is sm g, set_off]
  rfl
theorem upto_ok {v : Int} (h0 : 0 ≤ v) (h5 : v < 5) (s : S) : ∃ u : Int, ixOp (.lst [.int 10, .int 100, .int (10 ^ 5), .int (10 ^ 12), .int (10 ^ 40)]) (.int v) s = .ok (.int u) s ∧ 0 < u ∧ u.natAbs.log2 < 9000 := by
  have h : v = 0 ∨ v = 1 ∨ v = 2 ∨ v = 3 ∨ v = 4 := by omega
  rcases h with rfl | rfl | rfl | rfl | rfl
  · exact ⟨10, ix_lst rfl, by decide, by decide⟩
  · exact ⟨100, ix_lst rfl, by decide, by decide⟩
  · exact ⟨10 ^ 5, ix_lst rfl, by decide, by decide⟩
  · exact ⟨10 ^ 12, ix_lst rfl, by decide, by decide⟩
  · exact ⟨10 ^ 40, ix_lst rfl, by decide, Nat.lt_trans (log2_lt (i := (10 : Int) ^ 40) (n := 200) (by decide) (by decide)) (by decide)⟩
theorem f1_ok {n : Nat} {S0 : S} {c : Cell} {ps : List Int} {env : Fr} (w : WellC n c) (hn : n < 1000) (hl : ps.length ≤ 100) (e3 : env[3]? = some (some (.ref (S0.length + 0)))) (e4 : env[4]? = some (some (.ref (S0.length + 1)))) :
    ∃ v c', law_f1 env (S0 ++ [c, .lst (ps.map .int)]) = .nx env (S0 ++ [c', .lst ((ps ++ [v]).map .int)]) ∧ 0 ≤ v ∧ WellC (n + 2) c' := by
  obtain ⟨v5, c1, d1, a1, a2, w1⟩ := dipS (S0 := S0) (rest := [.lst (ps.map .int)]) w (by omega) (show (0 : Int) < 5 by decide) (by decide)
  obtain ⟨u, hu, u1, u2⟩ := upto_ok a1 a2 (S0 ++ [c1, .lst (ps.map .int)])
  obtain ⟨v, c2, d2, b1, b2, w2⟩ := dipS (S0 := S0) (rest := [.lst (ps.map .int)]) w1 (by omega) u1 u2
  refine ⟨v, c2, ?_, b1, w2⟩
  have q1 : asL (.ref (S0.length + 1)) (S0 ++ [c, .lst (ps.map .int)]) = some (ps.map .int) := asL_off rfl
  have p5 : ∀ s, powOp (.int 10) (.int 5) s = .ok (.int (10 ^ 5)) s := fun s => pow_ii
  have p12 : ∀ s, powOp (.int 10) (.int 12) s = .ok (.int (10 ^ 12)) s := fun s => pow_ii
  have p40 : ∀ s, powOp (.int 10) (.int 40) s = .ok (.int (10 ^ 40)) s := fun s => pow_ii
  have ap : appOp (.ref (S0.length + 1)) [.int v] (S0 ++ [c2, .lst (ps.map .int)]) = .ok .non (S0 ++ [c2, .lst ((ps ++ [v]).map .int)]) := by
    rw [app_off rfl (by rw [List.length_map]; exact Nat.lt_of_lt_of_le (show ps.length < 1000 by omega) (by decide))]
    simp
  unfold law_f1
  simp only [mVar_e, mC_e, mNil_e, mCons_e, mOp_e, mUn_e, mChain_e, mB_e, asB_e, mAnd_e, mOr_e, mNot_e, mAndV_e, mOrV_e, mNotV_e, mIf_e, mDisp_e, mCall_e, mCallK_e, mMethL_e, noPart_e, aPart_e, mSl_e, mIter_e, rng1_e, rng2_e, mLc_e, yesM_e, mSeq_e, mNext_e, mBreak_e, mCont_e, mExpr_e, mRet_e, mRetN_e, mIfS_e, mSet_e, mSetL_e, mFor_e, mRaise_e, mFn_0, mFn_1, mFn_2, mFn_3, mFn_4, mFn_5, mFn_6, mFn_7, mFn_8, mkT_0, mkT_1, mkT_2, mkT_3, mkT_4, mkT_5, mkT_6, mkT_7, mkT_8, mkT_9, mkT_10, mkF_0, mkF_1, mkF_2, mkF_3, mkF_4, mkF_5, mkF_6, mkF_7, mkF_8, mkF_9, mkF_10, mkC_0, mkC_1, mkC_2, mkC_3, mkC_4, mkC_5, mkC_6, mkC_7, mkC_8, mkC_9, mkC_10, ne_bb, eq_bb, aPart_i, gN_e, gD_n, wipeE_nil, wipeE_cons, bind_o, bind_x, bind_b, go_o, go_x, go_b, then_nx, then_rt, then_bk, then_ct, then_ex, then_bad, forNext_nx, forNext_ct, forNext_bk, forNext_rt, forNext_ex, endR_rt, endR_nx, endR_ex, noex_ok', List.map_cons, List.map_nil, List.cons_append, List.nil_append, List.replicate_succ, List.replicate_zero, List.getElem?_cons_zero, List.getElem?_cons_succ, List.set_cons_zero, List.set_cons_succ, Nat.reduceSub, Nat.sub_self, Nat.sub_zero, if_true, if_false, Bool.false_eq_true, eq_ii, ne_ii, lt_ii, gt_ii, le_ii, ge_ii, add_ii, sub_ii, and_ii, or_ii, xor_ii, neg_i, int1_i, len_tup, len_lst, len_scr, iter_tup, iter_lst, iter_scr, asQ_tup, asQ_lst, asQ_scr, asL_lst, decide_true, decide_false, decide_eq_true_eq, Bool.not_true, Bool.not_false, reduceCtorEq, e3, e4, q1, p5, p12, p40, d1, hu, d2, ap]

theorem mask_bits {m : Int} (h0 : 0 ≤ m) (h8 : m < 8) : ∃ x y z : Bool, decide (Builtin.bitAnd m 1 = 1) = x ∧ decide (Builtin.bitAnd m 2 = 2) = y ∧ decide (Builtin.bitAnd m 4 = 4) = z ∧ decide (m ∈ [(3 : Int), 5, 6, 7]) = maj x y z := by
  have h : m = 0 ∨ m = 1 ∨ m = 2 ∨ m = 3 ∨ m = 4 ∨ m = 5 ∨ m = 6 ∨ m = 7 := by omega
  rcases h with rfl | rfl | rfl | rfl | rfl | rfl | rfl | rfl <;> exact ⟨_, _, _, rfl, rfl, rfl, by decide⟩
def ifL (x : Bool) (d : D) : List D := if x = true then [d] else []
theorem f2_ok {n : Nat} {S0 : S} {c p0 : Cell} {P A B C U : List D} {k : Int} {o0 o1 o2 o4 o10 o11 o12 o13 o14 : Option D} (w : WellC n c) (hn : n < 1000) (hA : A.length ≤ 100) (hB : B.length ≤ 100) (hC : C.length ≤ 100) (hU : U.length ≤ 100) :
    ∃ x y z c' o, law_f2 [o0, o1, o2, some (.ref (S0.length + 0)), o4, some (.int k), some (.ref (S0.length + 3)), some (.ref (S0.length + 4)), some (.ref (S0.length + 5)), some (.ref (S0.length + 6)), o10, o11, o12, o13, o14] (S0 ++ [c, p0, .lst P, .lst A, .lst B, .lst C, .lst U])
      = .nx [o0, o1, o2, some (.ref (S0.length + 0)), o4, some (.int k), some (.ref (S0.length + 3)), some (.ref (S0.length + 4)), some (.ref (S0.length + 5)), some (.ref (S0.length + 6)), o10, o11, o12, o13, o] (S0 ++ [c', p0, .lst P, .lst (A ++ ifL x (.int k)), .lst (B ++ ifL y (.int k)), .lst (C ++ ifL z (.int k)), .lst (U ++ ifL (maj x y z) (.int k))]) ∧ WellC (n + 1) c' := by
  obtain ⟨m, c', hm, m0, m8, w'⟩ := dipS (S0 := S0) (rest := [p0, .lst P, .lst A, .lst B, .lst C, .lst U]) w (by omega) (show (0 : Int) < 8 by decide) (by decide)
  obtain ⟨x, y, z, hx, hy, hz, hmaj⟩ := mask_bits m0 m8
  refine ⟨x, y, z, c', some (.int m), ?_, w'⟩
  have sm : ∀ L : List D, L.length ≤ 100 → L.length < sizeLine := fun L h => Nat.lt_of_lt_of_le (show L.length < 1000 by omega) (by decide)
  have a3 : ∀ c b d e : Cell, appOp (.ref (S0.length + 3)) [.int k] (S0 ++ [c, p0, .lst P, .lst A, b, d, e]) = .ok .non (S0 ++ [c, p0, .lst P, .lst (A ++ [.int k]), b, d, e]) := fun c b d e => app_off rfl (sm _ hA)
  have a4 : ∀ c a d e : Cell, appOp (.ref (S0.length + 4)) [.int k] (S0 ++ [c, p0, .lst P, a, .lst B, d, e]) = .ok .non (S0 ++ [c, p0, .lst P, a, .lst (B ++ [.int k]), d, e]) := fun c b d e => app_off rfl (sm _ hB)
  have a5 : ∀ c a b e : Cell, appOp (.ref (S0.length + 5)) [.int k] (S0 ++ [c, p0, .lst P, a, b, .lst C, e]) = .ok .non (S0 ++ [c, p0, .lst P, a, b, .lst (C ++ [.int k]), e]) := fun c b d e => app_off rfl (sm _ hC)
  have a6 : ∀ c a b d : Cell, appOp (.ref (S0.length + 6)) [.int k] (S0 ++ [c, p0, .lst P, a, b, d, .lst U]) = .ok .non (S0 ++ [c, p0, .lst P, a, b, d, .lst (U ++ [.int k])]) := fun c b d e => app_off rfl (sm _ hU)
  have b3 : ∀ (L : List D) (c b d e : Cell), asL (.ref (S0.length + 3)) (S0 ++ [c, p0, .lst P, .lst L, b, d, e]) = some L := fun L c b d e => asL_off rfl
  have b4 : ∀ (L : List D) (c b d e : Cell), asL (.ref (S0.length + 4)) (S0 ++ [c, p0, .lst P, b, .lst L, d, e]) = some L := fun L c b d e => asL_off rfl
  have b5 : ∀ (L : List D) (c b d e : Cell), asL (.ref (S0.length + 5)) (S0 ++ [c, p0, .lst P, b, d, .lst L, e]) = some L := fun L c b d e => asL_off rfl
  have b6 : ∀ (L : List D) (c b d e : Cell), asL (.ref (S0.length + 6)) (S0 ++ [c, p0, .lst P, b, d, e, .lst L]) = some L := fun L c b d e => asL_off rfl
  have i7 : ∀ s, inOp (.int m) (.lst [.int 3, .int 5, .int 6, .int 7]) s = .ok (.bl (maj x y z)) s := fun s => by rw [← hmaj]; exact in_il m [3, 5, 6, 7]
  unfold law_f2
  cases x <;> cases y <;> cases z <;> simp only [mVar_e, mC_e, mNil_e, mCons_e, mOp_e, mUn_e, mChain_e, mB_e, asB_e, mAnd_e, mOr_e, mNot_e, mAndV_e, mOrV_e, mNotV_e, mIf_e, mDisp_e, mCall_e, mCallK_e, mMethL_e, noPart_e, aPart_e, mSl_e, mIter_e, rng1_e, rng2_e, mLc_e, yesM_e, mSeq_e, mNext_e, mBreak_e, mCont_e, mExpr_e, mRet_e, mRetN_e, mIfS_e, mSet_e, mSetL_e, mFor_e, mRaise_e, mFn_0, mFn_1, mFn_2, mFn_3, mFn_4, mFn_5, mFn_6, mFn_7, mFn_8, mkT_0, mkT_1, mkT_2, mkT_3, mkT_4, mkT_5, mkT_6, mkT_7, mkT_8, mkT_9, mkT_10, mkF_0, mkF_1, mkF_2, mkF_3, mkF_4, mkF_5, mkF_6, mkF_7, mkF_8, mkF_9, mkF_10, mkC_0, mkC_1, mkC_2, mkC_3, mkC_4, mkC_5, mkC_6, mkC_7, mkC_8, mkC_9, mkC_10, ne_bb, eq_bb, aPart_i, gN_e, gD_n, wipeE_nil, wipeE_cons, bind_o, bind_x, bind_b, go_o, go_x, go_b, then_nx, then_rt, then_bk, then_ct, then_ex, then_bad, forNext_nx, forNext_ct, forNext_bk, forNext_rt, forNext_ex, endR_rt, endR_nx, endR_ex, noex_ok', List.map_cons, List.map_nil, List.cons_append, List.nil_append, List.replicate_succ, List.replicate_zero, List.getElem?_cons_zero, List.getElem?_cons_succ, List.set_cons_zero, List.set_cons_succ, Nat.reduceSub, Nat.sub_self, Nat.sub_zero, if_true, if_false, Bool.false_eq_true, eq_ii, ne_ii, lt_ii, gt_ii, le_ii, ge_ii, add_ii, sub_ii, and_ii, or_ii, xor_ii, neg_i, int1_i, len_tup, len_lst, len_scr, iter_tup, iter_lst, iter_scr, asQ_tup, asQ_lst, asQ_scr, asL_lst, decide_true, decide_false, decide_eq_true_eq, Bool.not_true, Bool.not_false, reduceCtorEq, hm, hx, hy, hz, i7, maj, Bool.and_true, Bool.and_false, Bool.false_and, Bool.true_and, Bool.or_false, Bool.or_true, Bool.false_or, Bool.true_or, ifL, b3, b4, b5, b6, a3, a4, a5, a6, List.append_nil]

theorem draws_off (cell : Int) (S0 : S) : ∃ c, M__law_draws_of [.int cell] S0 = .ok (.ref (S0.length + 0)) (S0 ++ [c]) ∧ WellC 0 c := by
  obtain ⟨b, h, e, h1, h2⟩ := draws cell S0
  exact ⟨_, e, b, 0, h, rfl, by omega, by omega, h1, h2⟩
/-- the first loop -/
theorem loop1 {S0 : S} {o0 o1 o2 o5 o6 o7 o8 o9 o10 o11 o12 o13 o14 : Option D} {N : Nat} {c : Cell} {ps : List Int} (w : WellC 5 c) (hps : ∀ p ∈ ps, 0 ≤ p) (hl : ps.length ≤ 5) (xs : List D) (hx : xs.length ≤ 10) :
    ∃ (qs : List Int) (c' : Cell) (o : Option D), forGo (fun _ => true) (gN 5) law_f1 xs [o0, o1, o2, some (.ref (S0.length + 0)), some (.ref (S0.length + 1)), o5, o6, o7, o8, o9, o10, o11, o12, o13, o14] (S0 ++ [c, .lst (ps.map .int)])
      = .nx [o0, o1, o2, some (.ref (S0.length + 0)), some (.ref (S0.length + 1)), o, o6, o7, o8, o9, o10, o11, o12, o13, o14] (S0 ++ [c', .lst (qs.map .int)]) ∧ WellC 30 c' ∧ (∀ p ∈ qs, 0 ≤ p) ∧ qs.length ≤ 15 := by
  obtain ⟨env', s', e, hP⟩ := for_nx (chk := fun _ => true) (g := gN 5) (body := law_f1) (fun xs env s => ∃ (n : Nat) (qs : List Int) (c : Cell) (o : Option D), n + 2 * xs.length ≤ 30 ∧ WellC n c ∧ (∀ p ∈ qs, 0 ≤ p) ∧ qs.length + xs.length ≤ 15 ∧ s = S0 ++ [c, .lst (qs.map .int)] ∧
      env = [o0, o1, o2, some (.ref (S0.length + 0)), some (.ref (S0.length + 1)), o, o6, o7, o8, o9, o10, o11, o12, o13, o14]) (fun _ _ _ _ => rfl) (fun x xs env s ⟨n, qs, c, o, h1, h2, h3, h4, h5, h6⟩ => by
    subst h5 h6
    rw [List.length_cons] at h1 h4
    obtain ⟨v, c', q1, q2, q3⟩ := f1_ok (S0 := S0) (ps := qs) (env := [o0, o1, o2, some (.ref (S0.length + 0)), some (.ref (S0.length + 1)), some x, o6, o7, o8, o9, o10, o11, o12, o13, o14]) h2 (by omega) (by omega) rfl rfl
    refine ⟨_, _, _, _, gN_e, .inl q1, n + 2, qs ++ [v], c', some x, by omega, q3, fun p hp => ?_, by rw [List.length_append]; simp only [List.length_cons, List.length_nil]; omega, rfl, rfl⟩
    rcases List.mem_append.mp hp with hp | hp
    · exact h3 p hp
    · rw [List.mem_singleton.mp hp]
      exact q2) xs _ _ ⟨5, ps, c, o5, by omega, w, hps, by omega, rfl, rfl⟩
  obtain ⟨n, qs, c', o, h1, h2, h3, h4, rfl, rfl⟩ := hP
  obtain ⟨b, x, h, rfl, g1, g2, g3, g4⟩ := h2
  exact ⟨qs, _, o, e, ⟨b, x, h, rfl, g1, by rw [List.length_nil] at h1; omega, g3, g4⟩, h3, by rw [List.length_nil] at h4; omega⟩
theorem ifL_map {x : Bool} {k : Int} : ifL x (.int k) = (if x = true then [k] else []).map D.int := by cases x <;> rfl
theorem filter_upd {pre : List Int} {k : Int} {f : Int → Bool} {x : Bool} (h : k ∉ pre) : (pre ++ [k]).filter (fun j => if j = k then x else f j) = pre.filter f ++ if x = true then [k] else [] := by
  rw [List.filter_append]
  congr 1
  · refine List.filter_congr fun j hj => ?_
    have hne : ¬ j = k := fun e => h (by rw [← e]; exact hj)
    rw [if_neg hne]
  · cases x <;> simp
/-- the second loop -/
theorem loop2 {S0 : S} {o0 o1 o2 o5 o10 o11 o12 o13 o14 : Option D} {c p0 : Cell} {pool : List Int} (w : WellC 30 c) (hn : pool.Nodup) (hl : pool.length ≤ 20) :
    ∃ (a b d : Int → Bool) (c' : Cell) (o o' : Option D), forGo (fun s' => decide (s'[S0.length + 2]? = some (.lst (pool.map .int)))) (gN 5) law_f2 (pool.map .int) [o0, o1, o2, some (.ref (S0.length + 0)), some (.ref (S0.length + 2)), o5, some (.ref (S0.length + 3)), some (.ref (S0.length + 4)), some (.ref (S0.length + 5)), some (.ref (S0.length + 6)), o10, o11, o12, o13, o14]
        (S0 ++ [c, p0, .lst (pool.map .int), .lst [], .lst [], .lst [], .lst []])
      = .nx [o0, o1, o2, some (.ref (S0.length + 0)), some (.ref (S0.length + 2)), o, some (.ref (S0.length + 3)), some (.ref (S0.length + 4)), some (.ref (S0.length + 5)), some (.ref (S0.length + 6)), o10, o11, o12, o13, o']
        (S0 ++ [c', p0, .lst (pool.map .int), .lst ((pool.filter a).map .int), .lst ((pool.filter b).map .int), .lst ((pool.filter d).map .int), .lst ((pool.filter fun k => maj (a k) (b k) (d k)).map .int)]) := by
  obtain ⟨env', s', e, hP⟩ := for_nx (chk := fun s' => decide (s'[S0.length + 2]? = some (.lst (pool.map .int)))) (g := gN 5) (body := law_f2) (fun xs env s => ∃ (n : Nat) (pre post : List Int) (a b d : Int → Bool) (c : Cell) (o o' : Option D), pool = pre ++ post ∧ xs = post.map .int ∧ n + post.length ≤ 100 ∧ WellC n c ∧
      s = S0 ++ [c, p0, .lst (pool.map .int), .lst ((pre.filter a).map .int), .lst ((pre.filter b).map .int), .lst ((pre.filter d).map .int), .lst ((pre.filter fun k => maj (a k) (b k) (d k)).map .int)] ∧
      env = [o0, o1, o2, some (.ref (S0.length + 0)), some (.ref (S0.length + 2)), o, some (.ref (S0.length + 3)), some (.ref (S0.length + 4)), some (.ref (S0.length + 5)), some (.ref (S0.length + 6)), o10, o11, o12, o13, o'])
    (fun xs env s ⟨n, pre, post, a, b, d, c, o, o', h1, h2, h3, h4, h5, h6⟩ => by rw [h5, at_off]; exact decide_eq_true rfl)
    (fun x xs env s ⟨n, pre, post, a, b, d, c, o, o', h1, h2, h3, h4, h5, h6⟩ => by
      cases post with
      | nil => cases h2
      | cons k post =>
        rw [List.map_cons] at h2
        injection h2 with h2 h2'
        subst h2 h2' h5 h6
        rw [List.length_cons] at h3
        have hlen : pre.length ≤ 20 := by rw [h1, List.length_append] at hl; omega
        have lf : ∀ f : Int → Bool, ((pre.filter f).map D.int).length ≤ 100 := fun f => by
          rw [List.length_map]
          have := List.length_filter_le f pre
          omega
        obtain ⟨x, y, z, c', o2', q1, q2⟩ := f2_ok (S0 := S0) (c := c) (p0 := p0) (P := pool.map .int) (k := k) (o0 := o0) (o1 := o1) (o2 := o2) (o4 := some (.ref (S0.length + 2))) (o10 := o10) (o11 := o11) (o12 := o12) (o13 := o13) (o14 := o') h4 (by omega) (lf a) (lf b) (lf d) (lf fun k => maj (a k) (b k) (d k))
        have hk : k ∉ pre := by
          rw [h1] at hn
          have := (List.nodup_append.mp hn).2.2
          exact fun hm => this k hm k List.mem_cons_self rfl
        refine ⟨_, _, _, _, gN_e, .inl q1, n + 1, pre ++ [k], post, fun j => if j = k then x else a j, fun j => if j = k then y else b j, fun j => if j = k then z else d j, c', some (.int k), o2', by rw [h1, List.append_assoc]; rfl, rfl, by omega, q2, ?_, rfl⟩
        have em : (fun j => maj (if j = k then x else a j) (if j = k then y else b j) (if j = k then z else d j)) = fun j => if j = k then maj x y z else maj (a j) (b j) (d j) := by
          funext j
          by_cases e : j = k <;> simp only [e, if_true, if_false]
        rw [em]
        simp only [filter_upd hk, List.map_append, ifL_map]) (pool.map .int) _ _ ⟨30, [], pool, fun _ => false, fun _ => false, fun _ => false, c, o5, o14, rfl, rfl, by omega, w, rfl, rfl⟩
  obtain ⟨n, pre, post, a, b, d, c', o, o', h1, h2, h3, h4, rfl, rfl⟩ := hP
  have hp : post = [] := by
    cases post with
    | nil => rfl
    | cons _ _ => cases h2
  subst hp
  rw [List.append_nil] at h1
  subst h1
  exact ⟨a, b, d, c', o, o', e⟩

theorem WellC.mono {n m : Nat} {c : Cell} (w : WellC n c) (h : n ≤ m) : WellC m c := by
  obtain ⟨b, x, k, e, h1, h2, h3, h4⟩ := w
  exact ⟨b, x, k, e, h1, by omega, h3, h4⟩
theorem mid_eq {pool : List Int} (hp : pool.Pairwise (· < ·)) (f g h : Int → Bool) : midL (pool.filter f) (pool.filter g) (pool.filter h) = pool.filter fun k => maj (f k) (g k) (h k) := by
  refine asc_unique (asc_mid (asc_filter hp f) (asc_filter hp g)) (asc_filter hp _) fun k => mem_mid.trans ?_
  by_cases hk : k ∈ pool
  · simp [List.mem_filter, hk]
  · simp [List.mem_filter, hk, maj]
theorem maj_rot (x y z : Bool) : maj z x y = maj x y z := by cases x <;> cases y <;> cases z <;> rfl
theorem maj_swap (x y z : Bool) : maj y x z = maj x y z := by cases x <;> cases y <;> cases z <;> rfl
theorem maj_one (x y : Bool) : maj x x y = x := by cases x <;> cases y <;> rfl
abbrev tD (L : List Int) : D := .tup (L.map .int)
theorem same_tups {n : Nat} {s : S} (a b : List Int) (h : b.length ≤ 100000) : M__law_same (n + 2) [tD a, tD b] s = .ok (.bl (decide (a = b))) s := same_tup h fun x y _ _ => same_leaf x y
theorem f3_ok {S0 : S} {scr great : D} {cell : Int} {o3 o4 o5 o6 o7 o8 o9 o10 o11 o12 o13 o14 : Option D} :
    ∃ p3 p4 p5 p6 p7 p8 p9 p10 p11 p12 p13 p14 s', law_f3 [some scr, some great, some (.int cell), o3, o4, o5, o6, o7, o8, o9, o10, o11, o12, o13, o14] S0 = .nx [some scr, some great, some (.int cell), p3, p4, p5, p6, p7, p8, p9, p10, p11, p12, p13, p14] s' := by
  obtain ⟨c0, e0, w0⟩ := draws_off cell S0
  obtain ⟨v1, c1, e1, a1, a2, w1⟩ := dipS (S0 := S0) (rest := []) w0 (by omega) (show (0 : Int) < 4 by decide) (by decide)
  have l1 : ∀ env : Fr, lcGo (fun _ => true) (gD (.n 5)) yesM (mVar 5) [some scr, some great, some (.int cell), some (.ref (S0.length + 0)), o4, none, o6, o7, o8, o9, o10, o11, o12, o13, o14] ((List.range v1.toNat).map fun k => D.int (k : Nat)) (S0 ++ [c1]) = .ok ((List.range v1.toNat).map fun k => D.int (k : Nat)) (S0 ++ [c1]) := fun env =>
    lc_map1 rfl (fun k : Nat => D.int (k : Nat)) _ fun k hk => ⟨_, gD_n, by simp only [mVar_e, mC_e, mNil_e, mCons_e, mOp_e, mUn_e, mChain_e, mB_e, asB_e, mAnd_e, mOr_e, mNot_e, mAndV_e, mOrV_e, mNotV_e, mIf_e, mDisp_e, mCall_e, mCallK_e, mMethL_e, noPart_e, aPart_e, mSl_e, mIter_e, rng1_e, rng2_e, mLc_e, yesM_e, mSeq_e, mNext_e, mBreak_e, mCont_e, mExpr_e, mRet_e, mRetN_e, mIfS_e, mSet_e, mSetL_e, mFor_e, mRaise_e, mFn_0, mFn_1, mFn_2, mFn_3, mFn_4, mFn_5, mFn_6, mFn_7, mFn_8, mkT_0, mkT_1, mkT_2, mkT_3, mkT_4, mkT_5, mkT_6, mkT_7, mkT_8, mkT_9, mkT_10, mkF_0, mkF_1, mkF_2, mkF_3, mkF_4, mkF_5, mkF_6, mkF_7, mkF_8, mkF_9, mkF_10, mkC_0, mkC_1, mkC_2, mkC_3, mkC_4, mkC_5, mkC_6, mkC_7, mkC_8, mkC_9, mkC_10, ne_bb, eq_bb, aPart_i, gN_e, gD_n, wipeE_nil, wipeE_cons, bind_o, bind_x, bind_b, go_o, go_x, go_b, then_nx, then_rt, then_bk, then_ct, then_ex, then_bad, forNext_nx, forNext_ct, forNext_bk, forNext_rt, forNext_ex, endR_rt, endR_nx, endR_ex, noex_ok', List.map_cons, List.map_nil, List.cons_append, List.nil_append, List.replicate_succ, List.replicate_zero, List.getElem?_cons_zero, List.getElem?_cons_succ, List.set_cons_zero, List.set_cons_succ, Nat.reduceSub, Nat.sub_self, Nat.sub_zero, if_true, if_false, Bool.false_eq_true, eq_ii, ne_ii, lt_ii, gt_ii, le_ii, ge_ii, add_ii, sub_ii, and_ii, or_ii, xor_ii, neg_i, int1_i, len_tup, len_lst, len_scr, iter_tup, iter_lst, iter_scr, asQ_tup, asQ_lst, asQ_scr, asL_lst, decide_true, decide_false, decide_eq_true_eq, Bool.not_true, Bool.not_false, reduceCtorEq]⟩
  let ps : List Int := (List.range v1.toNat).map fun k : Nat => (k : Int)
  have hps : (List.range v1.toNat).map (fun k => D.int (k : Nat)) = ps.map D.int := by
    show _ = ((List.range v1.toNat).map fun k : Nat => (k : Int)).map D.int
    rw [List.map_map]
    rfl
  rw [hps] at l1
  have hpl : ps.length ≤ 5 := by
    show ((List.range v1.toNat).map fun k : Nat => (k : Int)).length ≤ 5
    rw [List.length_map, List.length_range]
    omega
  have hp0 : ∀ p ∈ ps, 0 ≤ p := fun p hp => by
    obtain ⟨k, _, rfl⟩ := List.mem_map.mp hp
    omega
  have k1 : mkC (ps.map D.int) (S0 ++ [c1]) = .ok (.ref (S0.length + 1)) (S0 ++ [c1, .lst (ps.map .int)]) := mkC_off rfl (by rw [List.length_map]; exact small (by omega))
  obtain ⟨v2, c2, e2, b1, b2, w2⟩ := dipS (S0 := S0) (rest := [.lst (ps.map .int)]) w1 (by omega) (show (0 : Int) < 7 by decide) (by decide)
  obtain ⟨qs, c3, o5', e3, w3, hq0, hql⟩ := loop1 (S0 := S0) (c := c2) (ps := ps) (o0 := some scr) (o1 := some great) (o2 := some (.int cell)) (o5 := o5) (o6 := o6) (o7 := o7) (o8 := o8) (o9 := o9) (o10 := o10) (o11 := o11) (o12 := o12) (o13 := o13) (o14 := o14) (N := 0) (w2.mono (by omega)) hp0 hpl ((List.range v2.toNat).map fun k => D.int (k : Nat)) (by rw [List.length_map, List.length_range]; omega)
  have hlU := sortU_len qs
  have hpool : (sortU qs).Pairwise (· < ·) := asc_sortU qs
  have hpool0 : ∀ p ∈ sortU qs, 0 ≤ p := fun p hp => hq0 p (mem_sortU.mp hp)
  have s1 : setSort mkC (.ref (S0.length + 1)) (S0 ++ [c3, .lst (qs.map .int)]) = mkC ((sortU qs).map .int) (S0 ++ [c3, .lst (qs.map .int)]) := setS_off rfl (by omega) (by omega)
  generalize sortU qs = pool at *
  have k2 : mkC (pool.map D.int) (S0 ++ [c3, .lst (qs.map .int)]) = .ok (.ref (S0.length + 2)) (S0 ++ [c3, .lst (qs.map .int), .lst (pool.map .int)]) := mkC_off rfl (by rw [List.length_map]; exact small (by omega))
  have k3 : ∀ x y z : Cell, mkC [] (S0 ++ [x, y, z]) = .ok (.ref (S0.length + 3)) (S0 ++ [x, y, z, .lst []]) := fun x y z => mkC_off rfl small
  have k4 : ∀ x y z a : Cell, mkC [] (S0 ++ [x, y, z, a]) = .ok (.ref (S0.length + 4)) (S0 ++ [x, y, z, a, .lst []]) := fun x y z a => mkC_off rfl small
  have k5 : ∀ x y z a b : Cell, mkC [] (S0 ++ [x, y, z, a, b]) = .ok (.ref (S0.length + 5)) (S0 ++ [x, y, z, a, b, .lst []]) := fun x y z a b => mkC_off rfl small
  have k6 : ∀ x y z a b d : Cell, mkC [] (S0 ++ [x, y, z, a, b, d]) = .ok (.ref (S0.length + 6)) (S0 ++ [x, y, z, a, b, d, .lst []]) := fun x y z a b d => mkC_off rfl small
  have it : iterD (.ref (S0.length + 2)) (S0 ++ [c3, .lst (qs.map .int), .lst (pool.map .int), .lst [], .lst [], .lst [], .lst []]) = _ := iter_off rfl
  obtain ⟨fa, fb, fc, c4, o5'', o14', e4⟩ := loop2 (S0 := S0) (c := c3) (p0 := .lst (qs.map .int)) (pool := pool) (o0 := some scr) (o1 := some great) (o2 := some (.int cell)) (o5 := o5') (o10 := o10) (o11 := o11) (o12 := o12) (o13 := o13) (o14 := o14) w3 (asc_nodup hpool) (by omega)
  have flen : ∀ f : Int → Bool, (pool.filter f).length ≤ 15 := fun f => by
    have := List.length_filter_le f pool
    omega
  have lot : ∀ f : Int → Bool, Lot (pool.filter f) := fun f => ⟨asc_filter hpool f, fun x hx => hpool0 x (List.mem_filter.mp hx).1, by have := flen f; omega⟩
  have mid : ∀ (f g h : Int → Bool) (s : S), M_middle [tD (pool.filter f), tD (pool.filter g), tD (pool.filter h)] s = .ok (tD (pool.filter fun k => maj (f k) (g k) (h k))) s := fun f g h s => by
    rw [mid_is (lot f) (lot g) (lot h) (by have := flen f; omega) (by have := flen g; omega), mid_eq hpool]
  have midP : ∀ (f g h r : Int → Bool) (s : S), (∀ k, maj (f k) (g k) (h k) = r k) → M_middle [tD (pool.filter f), tD (pool.filter g), tD (pool.filter h)] s = .ok (tD (pool.filter r)) s := fun f g h r s hr => by
    rw [mid, show (fun k => maj (f k) (g k) (h k)) = r from funext hr]
  have m0 := fun s => midP fa fb fc (fun k => maj (fa k) (fb k) (fc k)) s fun k => rfl
  have m1 := fun s => midP fc fa fb (fun k => maj (fa k) (fb k) (fc k)) s fun k => by cases fa k <;> cases fb k <;> cases fc k <;> rfl
  have m2 := fun s => midP fb fc fa (fun k => maj (fa k) (fb k) (fc k)) s fun k => by cases fa k <;> cases fb k <;> cases fc k <;> rfl
  have m3 := fun s => midP fb fa fc (fun k => maj (fa k) (fb k) (fc k)) s fun k => by cases fa k <;> cases fb k <;> cases fc k <;> rfl
  have m4 := fun s => midP fa fc fb (fun k => maj (fa k) (fb k) (fc k)) s fun k => by cases fa k <;> cases fb k <;> cases fc k <;> rfl
  have m5 := fun s => midP fc fb fa (fun k => maj (fa k) (fb k) (fc k)) s fun k => by cases fa k <;> cases fb k <;> cases fc k <;> rfl
  have m6 := fun s => midP fa fa fc fa s fun k => by cases fa k <;> cases fc k <;> rfl
  have m7 := fun s => midP fb fc fb fb s fun k => by cases fb k <;> cases fc k <;> rfl
  have m8 := fun s => midP fa fc fc fc s fun k => by cases fa k <;> cases fc k <;> rfl
  have fU := flen fun k => maj (fa k) (fb k) (fc k)
  have fA := flen fa
  have fB := flen fb
  have fC := flen fc
  generalize (pool.filter fun k => maj (fa k) (fb k) (fc k)) = U at *
  generalize pool.filter fa = A at *
  generalize pool.filter fb = B at *
  generalize pool.filter fc = C at *
  have t3 : ∀ y : S, tupleOp [.ref (S0.length + 3)] (S0 ++ (c4 :: .lst (qs.map .int) :: .lst (pool.map .int) :: .lst (A.map .int) :: y)) = .ok (.tup (A.map .int)) (S0 ++ (c4 :: .lst (qs.map .int) :: .lst (pool.map .int) :: .lst (A.map .int) :: y)) := fun y => tuple_off rfl (by rw [List.length_map]; exact small (by omega))
  have t4 : ∀ (x : Cell) (y : S), tupleOp [.ref (S0.length + 4)] (S0 ++ (c4 :: .lst (qs.map .int) :: .lst (pool.map .int) :: x :: .lst (B.map .int) :: y)) = .ok (.tup (B.map .int)) (S0 ++ (c4 :: .lst (qs.map .int) :: .lst (pool.map .int) :: x :: .lst (B.map .int) :: y)) := fun x y => tuple_off rfl (by rw [List.length_map]; exact small (by omega))
  have t5 : ∀ (x z : Cell) (y : S), tupleOp [.ref (S0.length + 5)] (S0 ++ (c4 :: .lst (qs.map .int) :: .lst (pool.map .int) :: x :: z :: .lst (C.map .int) :: y)) = .ok (.tup (C.map .int)) (S0 ++ (c4 :: .lst (qs.map .int) :: .lst (pool.map .int) :: x :: z :: .lst (C.map .int) :: y)) := fun x z y => tuple_off rfl (by rw [List.length_map]; exact small (by omega))
  have t6 : ∀ (x z u : Cell) (y : S), tupleOp [.ref (S0.length + 6)] (S0 ++ (c4 :: .lst (qs.map .int) :: .lst (pool.map .int) :: x :: z :: u :: .lst (U.map .int) :: y)) = .ok (.tup (U.map .int)) (S0 ++ (c4 :: .lst (qs.map .int) :: .lst (pool.map .int) :: x :: z :: u :: .lst (U.map .int) :: y)) := fun x z u y => tuple_off rfl (by rw [List.length_map]; exact small (by omega))
  have k7 : mkC [tD U, tD U, tD U, tD U, tD U] (S0 ++ [c4, .lst (qs.map .int), .lst (pool.map .int), .lst (A.map .int), .lst (B.map .int), .lst (C.map .int), .lst (U.map .int)]) = .ok (.ref (S0.length + 7)) (S0 ++ [c4, .lst (qs.map .int), .lst (pool.map .int), .lst (A.map .int), .lst (B.map .int), .lst (C.map .int), .lst (U.map .int), .lst [tD U, tD U, tD U, tD U, tD U]]) := mkC_off rfl small
  have q7 : asL (.ref (S0.length + 7)) (S0 ++ [c4, .lst (qs.map .int), .lst (pool.map .int), .lst (A.map .int), .lst (B.map .int), .lst (C.map .int), .lst (U.map .int), .lst [tD U, tD U, tD U, tD U, tD U]]) = some [tD U, tD U, tD U, tD U, tD U] := asL_off rfl
  have ap : appOp (.ref (S0.length + 7)) [tD U] (S0 ++ [c4, .lst (qs.map .int), .lst (pool.map .int), .lst (A.map .int), .lst (B.map .int), .lst (C.map .int), .lst (U.map .int), .lst [tD U, tD U, tD U, tD U, tD U]]) = .ok .non (S0 ++ [c4, .lst (qs.map .int), .lst (pool.map .int), .lst (A.map .int), .lst (B.map .int), .lst (C.map .int), .lst (U.map .int), .lst [tD U, tD U, tD U, tD U, tD U, tD U]]) := app_off (xs := [tD U, tD U, tD U, tD U, tD U]) rfl (by show 5 < sizeLine; decide)
  have pk : pick [1, 2, 0] [tD A, tD C, tD B] = [tD C, tD B, tD A] := rfl
  generalize hs9 : S0 ++ [c4, .lst (qs.map .int), .lst (pool.map .int), .lst (A.map .int), .lst (B.map .int), .lst (C.map .int), .lst (U.map .int), .lst [tD U, tD U, tD U, tD U, tD U, tD U]] = s9 at *
  have t9 : tupleOp [.ref (S0.length + 6)] s9 = .ok (tD U) s9 := by rw [← hs9]; exact t6 _ _ _ _
  have g9 : s9[S0.length + 7]? = some (.lst ([U, U, U, U, U, U].map tD)) := by rw [← hs9, at_off]; rfl
  have l9 : ∀ e0 e1 e2 e3 e4 e6 e7 e8 e10 e11 e12 e13 e14 : Option D, lcGo (fun _ => true) (gD (.n 5)) yesM law_e1 [e0, e1, e2, e3, e4, none, e6, e7, e8, some (.ref (S0.length + 6)), e10, e11, e12, e13, e14] ((List.range (6 : Int).toNat).map fun k => D.int (k : Nat)) s9 = .ok ([U, U, U, U, U, U].map tD) s9 := fun e0 e1 e2 e3 e4 e6 e7 e8 e10 e11 e12 e13 e14 => by
    have := lc_map1 (s := s9) (chk := fun _ => true) (g := gD (.n 5)) (te := law_e1) (env := [e0, e1, e2, e3, e4, none, e6, e7, e8, some (.ref (S0.length + 6)), e10, e11, e12, e13, e14]) rfl (fun k : Nat => D.int (k : Nat)) (fun _ => tD U) (xs := List.range (6 : Int).toNat) fun k hk => ⟨_, gD_n, by unfold law_e1; simp only [mVar_e, mC_e, mNil_e, mCons_e, mOp_e, mUn_e, mChain_e, mB_e, asB_e, mAnd_e, mOr_e, mNot_e, mAndV_e, mOrV_e, mNotV_e, mIf_e, mDisp_e, mCall_e, mCallK_e, mMethL_e, noPart_e, aPart_e, mSl_e, mIter_e, rng1_e, rng2_e, mLc_e, yesM_e, mSeq_e, mNext_e, mBreak_e, mCont_e, mExpr_e, mRet_e, mRetN_e, mIfS_e, mSet_e, mSetL_e, mFor_e, mRaise_e, mFn_0, mFn_1, mFn_2, mFn_3, mFn_4, mFn_5, mFn_6, mFn_7, mFn_8, mkT_0, mkT_1, mkT_2, mkT_3, mkT_4, mkT_5, mkT_6, mkT_7, mkT_8, mkT_9, mkT_10, mkF_0, mkF_1, mkF_2, mkF_3, mkF_4, mkF_5, mkF_6, mkF_7, mkF_8, mkF_9, mkF_10, mkC_0, mkC_1, mkC_2, mkC_3, mkC_4, mkC_5, mkC_6, mkC_7, mkC_8, mkC_9, mkC_10, ne_bb, eq_bb, aPart_i, gN_e, gD_n, wipeE_nil, wipeE_cons, bind_o, bind_x, bind_b, go_o, go_x, go_b, then_nx, then_rt, then_bk, then_ct, then_ex, then_bad, forNext_nx, forNext_ct, forNext_bk, forNext_rt, forNext_ex, endR_rt, endR_nx, endR_ex, noex_ok', List.map_cons, List.map_nil, List.cons_append, List.nil_append, List.replicate_succ, List.replicate_zero, List.getElem?_cons_zero, List.getElem?_cons_succ, List.set_cons_zero, List.set_cons_succ, Nat.reduceSub, Nat.sub_self, Nat.sub_zero, if_true, if_false, Bool.false_eq_true, eq_ii, ne_ii, lt_ii, gt_ii, le_ii, ge_ii, add_ii, sub_ii, and_ii, or_ii, xor_ii, neg_i, int1_i, len_tup, len_lst, len_scr, iter_tup, iter_lst, iter_scr, asQ_tup, asQ_lst, asQ_scr, asL_lst, decide_true, decide_false, decide_eq_true_eq, Bool.not_true, Bool.not_false, reduceCtorEq, t9]⟩
    rw [this]
    rfl
  have f9 : mkF ([U, U, U, U, U, U].map tD) s9 = .ok (.lst ([U, U, U, U, U, U].map tD)) s9 := mkF_e small
  have r1 : M__law_same 6 [.ref (S0.length + 7), .lst ([U, U, U, U, U, U].map tD)] s9 = .ok (.bl true) s9 := (same_ref (n := 5) g9 (by simp) fun a b _ hb => same_tups a b (by
    rw [show b = U by simpa using hb]
    omega)).trans (by rw [decide_eq_true rfl])
  have r1' : M__law_same 6 [.ref (S0.length + 7), .lst [tD U, tD U, tD U, tD U, tD U, tD U]] s9 = .ok (.bl true) s9 := r1
  have r2 : M__law_same 6 [.lst [tD A, tD B, tD C], .lst [tD A, tD B, tD C]] s9 = .ok (.bl true) s9 := (same_lst (n := 5) (e := tD) (as := [A, B, C]) (bs := [A, B, C]) (by simp) fun a b _ hb => same_tups a b (by
    have : b = A ∨ b = B ∨ b = C := by simpa using hb
    rcases this with rfl | rfl | rfl <;> omega)).trans (by rw [decide_eq_true rfl])
  have z1 : -10 ^ 12 ≤ v1 ∧ v1 ≤ 10 ^ 12 := by omega
  have z2 : -10 ^ 12 ≤ v2 ∧ v2 ≤ 10 ^ 12 := by omega
  have z6 : -10 ^ 12 ≤ (6 : Int) ∧ (6 : Int) ≤ 10 ^ 12 := by omega
  refine ⟨some (.ref (S0.length + 0)), some (.ref (S0.length + 2)), o5'', some (.ref (S0.length + 3)), some (.ref (S0.length + 4)), some (.ref (S0.length + 5)), some (.ref (S0.length + 6)), some (tD A), some (tD B), some (tD C), some (.ref (S0.length + 7)), o14', s9, ?_⟩
  unfold law_f3
  simp only [mVar_e, mC_e, mNil_e, mCons_e, mOp_e, mUn_e, mChain_e, mB_e, asB_e, mAnd_e, mOr_e, mNot_e, mAndV_e, mOrV_e, mNotV_e, mIf_e, mDisp_e, mCall_e, mCallK_e, mMethL_e, noPart_e, aPart_e, mSl_e, mIter_e, rng1_e, rng2_e, mLc_e, yesM_e, mSeq_e, mNext_e, mBreak_e, mCont_e, mExpr_e, mRet_e, mRetN_e, mIfS_e, mSet_e, mSetL_e, mFor_e, mRaise_e, mFn_0, mFn_1, mFn_2, mFn_3, mFn_4, mFn_5, mFn_6, mFn_7, mFn_8, mkT_0, mkT_1, mkT_2, mkT_3, mkT_4, mkT_5, mkT_6, mkT_7, mkT_8, mkT_9, mkT_10, mkF_0, mkF_1, mkF_2, mkF_3, mkF_4, mkF_5, mkF_6, mkF_7, mkF_8, mkF_9, mkF_10, ne_bb, eq_bb, aPart_i, gN_e, gD_n, wipeE_nil, wipeE_cons, bind_o, bind_x, bind_b, go_o, go_x, go_b, then_nx, then_rt, then_bk, then_ct, then_ex, then_bad, forNext_nx, forNext_ct, forNext_bk, forNext_rt, forNext_ex, endR_rt, endR_nx, endR_ex, noex_ok', List.map_cons, List.map_nil, List.cons_append, List.nil_append, List.replicate_succ, List.replicate_zero, List.getElem?_cons_zero, List.getElem?_cons_succ, List.set_cons_zero, List.set_cons_succ, Nat.reduceSub, Nat.sub_self, Nat.sub_zero, if_true, if_false, Bool.false_eq_true, eq_ii, ne_ii, lt_ii, gt_ii, le_ii, ge_ii, add_ii, sub_ii, and_ii, or_ii, xor_ii, neg_i, int1_i, len_tup, len_lst, len_scr, iter_tup, iter_lst, iter_scr, asQ_tup, asQ_lst, asQ_scr, asL_lst, decide_true, decide_false, decide_eq_true_eq, Bool.not_true, Bool.not_false, reduceCtorEq, e0, e1, rng_i z1, range_int, l1 [], hps, k1, e2, rng_i z2, e3, s1, k2, k3, k4, k5, k6, it, e4, t3, t4, t5, m0, m1, m2, m3, m4, k7, q7, pk, m5, ap, rng_i z6, l9, f9, r1', m6, m7, m8, r2]
theorem law_true (ns : List Int) (hl : ns.length ≤ 63) : ∃ s, M_law [.scr (ns.map .int)] [] = .ok (.bl true) s := by
  have sl : slOp mkF (.scr (ns.map .int)) none (some 20) [] = .ok (.lst ((ns.take 20).map .int)) [] := by
    have h := slice_to (xs := ns.map .int) (s := []) (mk := mkF) 20
    rw [← List.map_take, mkF_e (by rw [List.length_map, List.length_take]; exact small (by omega))] at h
    exact h
  have ad : addOp mkF (.lst [.int (532987656908178785100024952297691013459910497302476614039835399064559454294728582084585767307402)]) (.lst ((ns.take 20).map .int)) [] = .ok (.lst (((532987656908178785100024952297691013459910497302476614039835399064559454294728582084585767307402 : Int) :: ns.take 20).map .int)) [] := by
    show mkF ([.int (532987656908178785100024952297691013459910497302476614039835399064559454294728582084585767307402)] ++ (ns.take 20).map .int) [] = _
    rw [mkF_e (by rw [List.length_append, List.length_map, List.length_take]; exact small (by simp only [List.length_cons, List.length_nil]; omega))]
    rfl
  obtain ⟨env', s', e, o2, o3, o4, o5, o6, o7, o8, o9, o10, o11, o12, o13, o14, rfl, _⟩ := for_nx (chk := fun _ => true) (g := gN 2) (body := law_f3) (fun xs env s => ∃ o2 o3 o4 o5 o6 o7 o8 o9 o10 o11 o12 o13 o14 : Option D, env = [some (.scr (ns.map .int)), some (.int (532987656908178785100024952297691013459910497302476614039835399064559454294728582084585767307402)), o2, o3, o4, o5, o6, o7, o8, o9, o10, o11, o12, o13, o14] ∧ ∃ zs : List Int, xs = zs.map .int) (fun _ _ _ _ => rfl) (fun x xs env s ⟨o2, o3, o4, o5, o6, o7, o8, o9, o10, o11, o12, o13, o14, he, zs, hz⟩ => by
    subst he
    cases zs with
    | nil => cases hz
    | cons z zs =>
      rw [List.map_cons] at hz
      injection hz with hz hz'
      subst hz hz'
      obtain ⟨p3, p4, p5, p6, p7, p8, p9, p10, p11, p12, p13, p14, s', e⟩ := f3_ok (S0 := s) (scr := .scr (ns.map .int)) (great := .int (532987656908178785100024952297691013459910497302476614039835399064559454294728582084585767307402)) (cell := z) (o3 := o3) (o4 := o4) (o5 := o5) (o6 := o6) (o7 := o7) (o8 := o8) (o9 := o9) (o10 := o10) (o11 := o11) (o12 := o12) (o13 := o13) (o14 := o14)
      exact ⟨_, _, _, _, gN_e, .inl e, _, _, _, _, _, _, _, _, _, _, _, _, _, rfl, zs, rfl⟩) (((532987656908178785100024952297691013459910497302476614039835399064559454294728582084585767307402 : Int) :: ns.take 20).map .int) [some (.scr (ns.map .int)), some (.int (532987656908178785100024952297691013459910497302476614039835399064559454294728582084585767307402)), none, none, none, none, none, none, none, none, none, none, none, none, none] [] ⟨_, _, _, _, _, _, _, _, _, _, _, _, _, rfl, (532987656908178785100024952297691013459910497302476614039835399064559454294728582084585767307402 : Int) :: ns.take 20, rfl⟩
  rw [List.map_cons] at e
  refine ⟨s', ?_⟩
  unfold M_law B_law
  simp only [mVar_e, mC_e, mNil_e, mCons_e, mOp_e, mUn_e, mChain_e, mB_e, asB_e, mAnd_e, mOr_e, mNot_e, mAndV_e, mOrV_e, mNotV_e, mIf_e, mDisp_e, mCall_e, mCallK_e, mMethL_e, noPart_e, aPart_e, mSl_e, mIter_e, rng1_e, rng2_e, mLc_e, yesM_e, mSeq_e, mNext_e, mBreak_e, mCont_e, mExpr_e, mRet_e, mRetN_e, mIfS_e, mSet_e, mSetL_e, mFor_e, mRaise_e, mFn_0, mFn_1, mFn_2, mFn_3, mFn_4, mFn_5, mFn_6, mFn_7, mFn_8, mkT_0, mkT_1, mkT_2, mkT_3, mkT_4, mkT_5, mkT_6, mkT_7, mkT_8, mkT_9, mkT_10, mkF_0, mkF_1, mkF_2, mkF_3, mkF_4, mkF_5, mkF_6, mkF_7, mkF_8, mkF_9, mkF_10, mkC_0, mkC_1, mkC_2, mkC_3, mkC_4, mkC_5, mkC_6, mkC_7, mkC_8, mkC_9, mkC_10, ne_bb, eq_bb, aPart_i, gN_e, gD_n, wipeE_nil, wipeE_cons, bind_o, bind_x, bind_b, go_o, go_x, go_b, then_nx, then_rt, then_bk, then_ct, then_ex, then_bad, forNext_nx, forNext_ct, forNext_bk, forNext_rt, forNext_ex, endR_rt, endR_nx, endR_ex, noex_ok', List.map_cons, List.map_nil, List.cons_append, List.nil_append, List.replicate_succ, List.replicate_zero, List.getElem?_cons_zero, List.getElem?_cons_succ, List.set_cons_zero, List.set_cons_succ, Nat.reduceSub, Nat.sub_self, Nat.sub_zero, if_true, if_false, Bool.false_eq_true, eq_ii, ne_ii, lt_ii, gt_ii, le_ii, ge_ii, add_ii, sub_ii, and_ii, or_ii, xor_ii, neg_i, int1_i, len_tup, len_lst, len_scr, iter_tup, iter_lst, iter_scr, asQ_tup, asQ_lst, asQ_scr, asL_lst, decide_true, decide_false, decide_eq_true_eq, Bool.not_true, Bool.not_false, reduceCtorEq, sl, ad, e]
end Lw

namespace Lw
open PySem PySem.Spec PyProof.Rows L2 Mi

structure Fx (K : PySem.W.Frag) (mg : MG) : Prop where
  n_int : mg "int" = none
  n_all : mg "all" = none
  n_range : mg "range" = none
  n_len : mg "len" = none
  n_isinstance : mg "isinstance" = none
  n_bool : mg "bool" = none
  n_tuple : mg "tuple" = none
  n_sorted : mg "sorted" = none
  n_list : mg "list" = none
  n_set : mg "set" = none
  x_InvalidLot : ∀ X : Cx, X.K = K → X.mg = mg → OwnEx X "InvalidLot" (He.ga K "InvalidLot")
  sub : SubOk K mg subZ
variable {P : Program} {w : World} {K : PySem.W.Frag} {mg : MG} {base : Heap}
theorem sc__law_draws_of : FnScope N__law_draws_of ["cell"] (defScope (top 11)) := ⟨rfl, rfl, rfl, nd__law_draws_of, rfl, by decide +kernel, by decide +kernel⟩
theorem k__law_draws_of (Z : Fx K mg) {f : Addr} {fd : FuncData} (F : FunD K "_law_draws_of" "_law_draws_of" (defArgs (top 11)) (defBody (top 11)) (defScope (top 11)) [] [] f fd) (hm : mg "_law_draws_of" = some (.ref f)) : FnOk P w K mg base (L2.CX P w) 1 f fd ["cell"] (SpM mg 1 M__law_draws_of) := by
  skip
  refine fn_d F sc__law_draws_of fun cdv A outer s H E hr => ?_
  have hu := hr.units; have hu5 := hr.units5
  exact (mss_cons (ms_if (mt_cmp (mo_ge hu) (me_var 0 rfl (by first | exact .inl rfl | exact .inr (.inl rfl) | exact .inr (.inr rfl))) (me_bin mo_pow me_int me_int)) (mss_one (ms_ret (me_lst mk_c (ma_cons (me_bin mo_sub (me_var 0 rfl (by first | exact .inl rfl | exact .inr (.inl rfl) | exact .inr (.inr rfl))) (me_bin mo_pow me_int me_int)) (ma_cons me_int (ma_cons (me_bin mo_mod (me_callTy (mc_int) rfl Z.n_int rfl (ma_cons (me_var 0 rfl (by first | exact .inl rfl | exact .inr (.inl rfl) | exact .inr (.inr rfl))) ma_nil)) me_int) ma_nil)))))) mss_nil)
  (mss_one (ms_ret (me_lst mk_c (ma_cons me_int (ma_cons me_int (ma_cons (me_bin mo_mod (me_callTy (mc_int) rfl Z.n_int rfl (ma_cons (me_var 0 rfl (by first | exact .inl rfl | exact .inr (.inl rfl) | exact .inr (.inr rfl))) ma_nil)) (me_bin (mo_add mk_f) (me_bin mo_pow me_int me_int) me_int)) ma_nil)))))))
theorem o__law_draws_of_1 (Z : Fx K mg) {f : Addr} {fd : FuncData} (F : FunD K "_law_draws_of" "_law_draws_of" (defArgs (top 11)) (defBody (top 11)) (defScope (top 11)) [] [] f fd) (hm : mg "_law_draws_of" = some (.ref f)) : Fk P w K mg base 1 "_law_draws_of" 1 [] M__law_draws_of := Fk.same F (k__law_draws_of Z  F hm) hm (fun _ _ _ _ _ _ us hl => match us, hl with | [_], _ => rfl)
theorem sc__law_dip : FnScope N__law_dip ["well", "upto"] (defScope (top 12)) := ⟨rfl, rfl, rfl, nd__law_dip, rfl, by decide +kernel, by decide +kernel⟩
theorem k__law_dip (Z : Fx K mg) {f : Addr} {fd : FuncData} (F : FunD K "_law_dip" "_law_dip" (defArgs (top 12)) (defBody (top 12)) (defScope (top 12)) [] [] f fd) (hm : mg "_law_dip" = some (.ref f)) : FnOk P w K mg base (L2.CX P w) 1 f fd ["well", "upto"] (SpM mg 2 M__law_dip) := by
  skip
  refine fn_d F sc__law_dip fun cdv A outer s H E hr => ?_
  have hu := hr.units; have hu5 := hr.units5
  exact (mss_cons (ms_if (mt_cmp (mo_gt hu) (me_ix (me_var 0 rfl (by first | exact .inl rfl | exact .inr (.inl rfl) | exact .inr (.inr rfl))) me_int) me_int) (mss_cons (ms_set 4 nd__law_dip rfl (by first | exact .inl rfl | exact .inr rfl) (me_bin mo_mod (me_callTy (mc_int) rfl Z.n_int rfl (ma_cons (me_ix (me_var 0 rfl (by first | exact .inl rfl | exact .inr (.inl rfl) | exact .inr (.inr rfl))) me_int) ma_nil)) (me_var 1 rfl (by first | exact .inl rfl | exact .inr (.inl rfl) | exact .inr (.inr rfl)))))
  (mss_cons (ms_setL (me_var 0 rfl (by first | exact .inl rfl | exact .inr (.inl rfl) | exact .inr (.inr rfl))) me_int (me_bin mo_div (me_ix (me_var 0 rfl (by first | exact .inl rfl | exact .inr (.inl rfl) | exact .inr (.inr rfl))) me_int) (me_var 1 rfl (by first | exact .inl rfl | exact .inr (.inl rfl) | exact .inr (.inr rfl)))))
  (mss_one (ms_ret (me_var 4 rfl (by first | exact .inl rfl | exact .inr (.inl rfl) | exact .inr (.inr rfl))))))) mss_nil)
  (mss_cons (ms_setL (me_var 0 rfl (by first | exact .inl rfl | exact .inr (.inl rfl) | exact .inr (.inr rfl))) me_int (me_bin (mo_add mk_f) (me_ix (me_var 0 rfl (by first | exact .inl rfl | exact .inr (.inl rfl) | exact .inr (.inr rfl))) me_int) me_int))
  (mss_cons (ms_set 2 nd__law_dip rfl (by first | exact .inl rfl | exact .inr rfl) (me_ix (me_var 0 rfl (by first | exact .inl rfl | exact .inr (.inl rfl) | exact .inr (.inr rfl))) me_int))
  (mss_cons (ms_set 3 nd__law_dip rfl (by first | exact .inl rfl | exact .inr rfl) (me_bin (mo_add mk_f) (me_bin (mo_mul mk_f) (me_bin (mo_add mk_f) (me_ix (me_var 0 rfl (by first | exact .inl rfl | exact .inr (.inl rfl) | exact .inr (.inr rfl))) me_int) me_int) (me_bin (mo_add mk_f) me_int (me_bin (mo_mul mk_f) me_int (me_var 2 rfl (by first | exact .inl rfl | exact .inr (.inl rfl) | exact .inr (.inr rfl)))))) (me_bin (mo_mul mk_f) (me_bin (mo_mul mk_f) me_int (me_var 2 rfl (by first | exact .inl rfl | exact .inr (.inl rfl) | exact .inr (.inr rfl)))) (me_var 2 rfl (by first | exact .inl rfl | exact .inr (.inl rfl) | exact .inr (.inr rfl))))))
  (mss_cons (ms_set 3 nd__law_dip rfl (by first | exact .inl rfl | exact .inr rfl) (me_bin (mo_mul mk_f) (me_bin mo_mod (me_callTy (mc_int) rfl Z.n_int rfl (ma_cons (me_bin (mo_mul mk_f) (me_var 3 rfl (by first | exact .inl rfl | exact .inr (.inl rfl) | exact .inr (.inr rfl))) (me_var 3 rfl (by first | exact .inl rfl | exact .inr (.inl rfl) | exact .inr (.inr rfl)))) ma_nil)) me_int) me_int))
  (mss_one (ms_ret (me_bin mo_mod (me_callTy (mc_int) rfl Z.n_int rfl (ma_cons (me_bin mo_div (me_bin mo_mod (me_callTy (mc_int) rfl Z.n_int rfl (ma_cons (me_var 3 rfl (by first | exact .inl rfl | exact .inr (.inl rfl) | exact .inr (.inr rfl))) ma_nil)) me_int) me_int) ma_nil)) (me_var 1 rfl (by first | exact .inl rfl | exact .inr (.inl rfl) | exact .inr (.inr rfl)))))))))))
theorem o__law_dip_2 (Z : Fx K mg) {f : Addr} {fd : FuncData} (F : FunD K "_law_dip" "_law_dip" (defArgs (top 12)) (defBody (top 12)) (defScope (top 12)) [] [] f fd) (hm : mg "_law_dip" = some (.ref f)) : Fk P w K mg base 1 "_law_dip" 2 [] M__law_dip := Fk.same F (k__law_dip Z  F hm) hm (fun _ _ _ _ _ _ us hl => match us, hl with | [_, _], _ => rfl)
theorem sc_is_ascending : FnScope N_is_ascending ["row"] (defScope (top 5)) := ⟨rfl, rfl, rfl, nd_is_ascending, rfl, by decide +kernel, by decide +kernel⟩
theorem k_is_ascending (Z : Fx K mg) {f : Addr} {fd : FuncData} (F : FunD K "is_ascending" "is_ascending" (defArgs (top 5)) (defBody (top 5)) (defScope (top 5)) [] [] f fd) (hm : mg "is_ascending" = some (.ref f)) : FnOk P w K mg base (L2.CX P w) 1 f fd ["row"] (SpM mg 1 M_is_ascending) := by
  skip
  refine fn_d F sc_is_ascending fun cdv A outer s H E hr => ?_
  have hu := hr.units; have hu5 := hr.units5
  exact (mss_one (ms_ret (me_callB (mc_all rfl) rfl Z.n_all rfl (ma_cons (me_lc (own := [("k", 1)]) mk_f (by decide) rfl nd_is_ascending (mi_range1 rfl Z.n_range (me_bin mo_sub (me_callB (mc_len) rfl Z.n_len rfl (ma_cons (me_var 0 rfl (by first | exact .inl rfl | exact .inr (.inl rfl) | exact .inr (.inr rfl))) ma_nil)) me_int)) (L2.blkOk_by (by conv => { lhs; arg 1; whnf }; conv => { lhs; arg 2; whnf }; decide +kernel)) (fun _ _ _ _ _ => pg_name nd_is_ascending (i := 1) rfl (by first | exact .inl rfl | exact .inr rfl)) (fun _ _ _ _ _ => mts_nil) (fun _ _ _ _ _ => (me_cmp (mo_lt hu) (me_ix (me_var 0 rfl (by first | exact .inl rfl | exact .inr (.inl rfl) | exact .inr (.inr rfl))) (me_var 1 rfl (by first | exact .inl rfl | exact .inr (.inl rfl) | exact .inr (.inr rfl)))) (me_ix (me_var 0 rfl (by first | exact .inl rfl | exact .inr (.inl rfl) | exact .inr (.inr rfl))) (me_bin (mo_add mk_f) (me_var 1 rfl (by first | exact .inl rfl | exact .inr (.inl rfl) | exact .inr (.inr rfl))) me_int))))) ma_nil))))
theorem o_is_ascending_1 (Z : Fx K mg) {f : Addr} {fd : FuncData} (F : FunD K "is_ascending" "is_ascending" (defArgs (top 5)) (defBody (top 5)) (defScope (top 5)) [] [] f fd) (hm : mg "is_ascending" = some (.ref f)) : Fk P w K mg base 1 "is_ascending" 1 [] M_is_ascending := Fk.same F (k_is_ascending Z  F hm) hm (fun _ _ _ _ _ _ us hl => match us, hl with | [_], _ => rfl)
theorem sc_is_int : FnScope N_is_int ["value"] (defScope (top 4)) := ⟨rfl, rfl, rfl, nd_is_int, rfl, by decide +kernel, by decide +kernel⟩
theorem k_is_int (Z : Fx K mg) {f : Addr} {fd : FuncData} (F : FunD K "is_int" "is_int" (defArgs (top 4)) (defBody (top 4)) (defScope (top 4)) [] [] f fd) (hm : mg "is_int" = some (.ref f)) : FnOk P w K mg base (L2.CX P w) 1 f fd ["value"] (SpM mg 1 M_is_int) := by
  skip
  refine fn_d F sc_is_int fun cdv A outer s H E hr => ?_
  have hu := hr.units; have hu5 := hr.units5
  exact (mss_one (ms_ret (me_and (me_callB (mc_isi Z.sub) rfl Z.n_isinstance rfl (ma_cons (me_var 0 rfl (by first | exact .inl rfl | exact .inr (.inl rfl) | exact .inr (.inr rfl))) (ma_cons (me_ty rfl Z.n_int rfl) ma_nil))) (me_one (me_not (me_callB (mc_isi Z.sub) rfl Z.n_isinstance rfl (ma_cons (me_var 0 rfl (by first | exact .inl rfl | exact .inr (.inl rfl) | exact .inr (.inr rfl))) (ma_cons (me_ty rfl Z.n_bool rfl) ma_nil))))))))
theorem o_is_int_1 (Z : Fx K mg) {f : Addr} {fd : FuncData} (F : FunD K "is_int" "is_int" (defArgs (top 4)) (defBody (top 4)) (defScope (top 4)) [] [] f fd) (hm : mg "is_int" = some (.ref f)) : Fk P w K mg base 1 "is_int" 1 [] M_is_int := Fk.same F (k_is_int Z  F hm) hm (fun _ _ _ _ _ _ us hl => match us, hl with | [_], _ => rfl)
theorem sc_is_lot : FnScope N_is_lot ["value", "things"] (defScope (top 6)) := ⟨rfl, rfl, rfl, nd_is_lot, rfl, by decide +kernel, by decide +kernel⟩
theorem k_is_lot (Z : Fx K mg) (h_is_int_1 : Fk P w K mg base 1 "is_int" 1 [] M_is_int) (h_is_ascending_1 : Fk P w K mg base 1 "is_ascending" 1 [] M_is_ascending) {f : Addr} {fd : FuncData} (F : FunD K "is_lot" "is_lot" (defArgs (top 6)) (defBody (top 6)) (defScope (top 6)) [] [] f fd) (hm : mg "is_lot" = some (.ref f)) : FnOk P w K mg base (L2.CX P w) 2 f fd ["value", "things"] (SpM mg 2 M_is_lot) := by
  skip
  refine fn_d F sc_is_lot fun cdv A outer s H E hr => ?_
  have hu := hr.units; have hu5 := hr.units5
  exact (mss_cons (ms_if (MW.mt (mw_or (mt_not (mt_val (me_callB (mc_isi Z.sub) rfl Z.n_isinstance rfl (ma_cons (me_var 0 rfl (by first | exact .inl rfl | exact .inr (.inl rfl) | exact .inr (.inr rfl))) (ma_cons (me_ty rfl Z.n_tuple rfl) ma_nil))))) (mw_or1 (mt_not (mt_val (me_callB (mc_all rfl) rfl Z.n_all rfl (ma_cons (me_lc (own := [("thing", 2)]) mk_f (by decide) rfl nd_is_lot (mi_seq (me_var 0 rfl (by first | exact .inl rfl | exact .inr (.inl rfl) | exact .inr (.inr rfl)))) (L2.blkOk_by (by conv => { lhs; arg 1; whnf }; conv => { lhs; arg 2; whnf }; decide +kernel)) (fun _ _ _ _ _ => pg_name nd_is_lot (i := 2) rfl (by first | exact .inl rfl | exact .inr rfl)) (fun _ _ _ _ _ => mts_nil) (fun _ _ _ _ _ => (me_and (me_callP h_is_int_1 (hr.mono (by omega)) rfl tk0 (ma_cons (me_var 2 rfl (by first | exact .inl rfl | exact .inr (.inl rfl) | exact .inr (.inr rfl))) ma_nil) (.cons .nil)) (me_one (me_cmp (mo_ge hu) (me_var 2 rfl (by first | exact .inl rfl | exact .inr (.inl rfl) | exact .inr (.inr rfl))) me_int))))) ma_nil))))))) (mss_one (ms_ret me_bl)) mss_nil)
  (mss_one (ms_ret (me_and (me_callP h_is_ascending_1 (hr.mono (by omega)) rfl takesF (ma_cons (me_var 0 rfl (by first | exact .inl rfl | exact .inr (.inl rfl) | exact .inr (.inr rfl))) ma_nil) (.cons .nil)) (me_one (me_or (me_cmp (mo_isN) (me_var 1 rfl (by first | exact .inl rfl | exact .inr (.inl rfl) | exact .inr (.inr rfl))) me_non) (me_or (me_cmp (mo_eq hu) (me_var 0 rfl (by first | exact .inl rfl | exact .inr (.inl rfl) | exact .inr (.inr rfl))) (me_tup ma_nil)) (me_one (me_cmp (mo_lt hu) (me_ix (me_var 0 rfl (by first | exact .inl rfl | exact .inr (.inl rfl) | exact .inr (.inr rfl))) (me_un mu_neg me_int)) (me_var 1 rfl (by first | exact .inl rfl | exact .inr (.inl rfl) | exact .inr (.inr rfl))))))))))))
theorem o_is_lot_2 (Z : Fx K mg) (h_is_int_1 : Fk P w K mg base 1 "is_int" 1 [] M_is_int) (h_is_ascending_1 : Fk P w K mg base 1 "is_ascending" 1 [] M_is_ascending) {f : Addr} {fd : FuncData} (F : FunD K "is_lot" "is_lot" (defArgs (top 6)) (defBody (top 6)) (defScope (top 6)) [] [] f fd) (hm : mg "is_lot" = some (.ref f)) : Fk P w K mg base 2 "is_lot" 2 [] M_is_lot := Fk.same F (k_is_lot Z h_is_int_1 h_is_ascending_1 F hm) hm (fun _ _ _ _ _ _ us hl => match us, hl with | [_, _], _ => rfl)
theorem sc_check_lot : FnScope N_check_lot ["lot", "things"] (defScope (top 7)) := ⟨rfl, rfl, rfl, nd_check_lot, rfl, by decide +kernel, by decide +kernel⟩
theorem k_check_lot (Z : Fx K mg) (h_is_lot_2 : Fk P w K mg base 2 "is_lot" 2 [] M_is_lot) {f : Addr} {fd : FuncData} (F : FunD K "check_lot" "check_lot" (defArgs (top 7)) (defBody (top 7)) (defScope (top 7)) [] [] f fd) (hm : mg "check_lot" = some (.ref f)) : FnOk P w K mg base (L2.CX P w) 3 f fd ["lot", "things"] (SpM mg 2 M_check_lot) := by
  skip
  refine fn_d F sc_check_lot fun cdv A outer s H E hr => ?_
  have hu := hr.units; have hu5 := hr.units5
  exact (mss_one (ms_if (mt_not (mt_val (me_callP h_is_lot_2 (hr.mono (by omega)) rfl takesF (ma_cons (me_var 0 rfl (by first | exact .inl rfl | exact .inr (.inl rfl) | exact .inr (.inr rfl))) (ma_cons (me_var 1 rfl (by first | exact .inl rfl | exact .inr (.inl rfl) | exact .inr (.inr rfl))) ma_nil)) (.cons (.cons .nil))))) (mss_one (ms_raise rfl takesF (Z.x_InvalidLot _ rfl rfl) rfl)) mss_nil))
theorem o_check_lot_2 (Z : Fx K mg) (h_is_lot_2 : Fk P w K mg base 2 "is_lot" 2 [] M_is_lot) {f : Addr} {fd : FuncData} (F : FunD K "check_lot" "check_lot" (defArgs (top 7)) (defBody (top 7)) (defScope (top 7)) [] [] f fd) (hm : mg "check_lot" = some (.ref f)) : Fk P w K mg base 3 "check_lot" 2 [] M_check_lot := Fk.same F (k_check_lot Z h_is_lot_2 F hm) hm (fun _ _ _ _ _ _ us hl => match us, hl with | [_, _], _ => rfl)
theorem sc_raw_middle : FnScope N_raw_middle ["one", "two", "three"] (defScope (top 8)) := ⟨rfl, rfl, rfl, nd_raw_middle, rfl, by decide +kernel, by decide +kernel⟩
theorem k_raw_middle (Z : Fx K mg) {f : Addr} {fd : FuncData} (F : FunD K "raw_middle" "raw_middle" (defArgs (top 8)) (defBody (top 8)) (defScope (top 8)) [] [] f fd) (hm : mg "raw_middle" = some (.ref f)) : FnOk P w K mg base (L2.CX P w) 1 f fd ["one", "two", "three"] (SpM mg 3 M_raw_middle) := by
  skip
  refine fn_d F sc_raw_middle fun cdv A outer s H E hr => ?_
  have hu := hr.units; have hu5 := hr.units5
  exact (mss_cons (ms_setLc 3 (own := [("thing", 4)]) mk_f (by decide) rfl nd_raw_middle rfl rfl (mi_seq (me_var 0 rfl (by first | exact .inl rfl | exact .inr (.inl rfl) | exact .inr (.inr rfl)))) (L2.blkOk_by (by conv => { lhs; arg 1; whnf }; conv => { lhs; arg 2; whnf }; decide +kernel)) (fun _ _ _ _ _ => pg_name nd_raw_middle (i := 4) rfl (by first | exact .inl rfl | exact .inr rfl)) (fun _ _ _ _ _ => mts_one (MW.mt (mw_or (mt_cmp (mo_in hu5) (me_var 4 rfl (by first | exact .inl rfl | exact .inr (.inl rfl) | exact .inr (.inr rfl))) (me_var 1 rfl (by first | exact .inl rfl | exact .inr (.inl rfl) | exact .inr (.inr rfl)))) (mw_or1 (mt_cmp (mo_in hu5) (me_var 4 rfl (by first | exact .inl rfl | exact .inr (.inl rfl) | exact .inr (.inr rfl))) (me_var 2 rfl (by first | exact .inl rfl | exact .inr (.inl rfl) | exact .inr (.inr rfl)))))))) (fun _ _ _ _ _ => (me_var 4 rfl (by first | exact .inl rfl | exact .inr (.inl rfl) | exact .inr (.inr rfl)))) (L2.sw_true rfl rfl rfl rfl))
  (mss_one (ms_ret (me_callTy (mc_tuple) rfl Z.n_tuple rfl (ma_cons (me_callB (mc_sorted mk_f hu) rfl Z.n_sorted rfl (ma_cons (me_bin (mo_add mk_f) (me_var 3 rfl (by first | exact .inl rfl | exact .inr (.inl rfl) | exact .inr (.inr rfl))) (me_lc (own := [("thing", 4)]) mk_f (by decide) rfl nd_raw_middle (mi_seq (me_var 1 rfl (by first | exact .inl rfl | exact .inr (.inl rfl) | exact .inr (.inr rfl)))) (L2.blkOk_by (by conv => { lhs; arg 1; whnf }; conv => { lhs; arg 2; whnf }; decide +kernel)) (fun _ _ _ _ _ => pg_name nd_raw_middle (i := 4) rfl (by first | exact .inl rfl | exact .inr rfl)) (fun _ _ _ _ _ => mts_one (MW.mt (mw_and (mt_cmp (mo_in hu5) (me_var 4 rfl (by first | exact .inl rfl | exact .inr (.inl rfl) | exact .inr (.inr rfl))) (me_var 2 rfl (by first | exact .inl rfl | exact .inr (.inl rfl) | exact .inr (.inr rfl)))) (mw_and1 (mt_cmp (mo_notIn hu5) (me_var 4 rfl (by first | exact .inl rfl | exact .inr (.inl rfl) | exact .inr (.inr rfl))) (me_var 0 rfl (by first | exact .inl rfl | exact .inr (.inl rfl) | exact .inr (.inr rfl)))))))) (fun _ _ _ _ _ => (me_var 4 rfl (by first | exact .inl rfl | exact .inr (.inl rfl) | exact .inr (.inr rfl)))))) ma_nil)) ma_nil)))))
theorem o_raw_middle_3 (Z : Fx K mg) {f : Addr} {fd : FuncData} (F : FunD K "raw_middle" "raw_middle" (defArgs (top 8)) (defBody (top 8)) (defScope (top 8)) [] [] f fd) (hm : mg "raw_middle" = some (.ref f)) : Fk P w K mg base 1 "raw_middle" 3 [] M_raw_middle := Fk.same F (k_raw_middle Z  F hm) hm (fun _ _ _ _ _ _ us hl => match us, hl with | [_, _, _], _ => rfl)
theorem sc_middle : FnScope N_middle ["lot", "other_lot", "third_lot"] (defScope (top 9)) := ⟨rfl, rfl, rfl, nd_middle, rfl, by decide +kernel, by decide +kernel⟩
theorem k_middle (Z : Fx K mg) (h_check_lot_2 : Fk P w K mg base 3 "check_lot" 2 [] M_check_lot) (h_raw_middle_3 : Fk P w K mg base 1 "raw_middle" 3 [] M_raw_middle) {f : Addr} {fd : FuncData} (F : FunD K "middle" "middle" (defArgs (top 9)) (defBody (top 9)) (defScope (top 9)) [] [] f fd) (hm : mg "middle" = some (.ref f)) : FnOk P w K mg base (L2.CX P w) 4 f fd ["lot", "other_lot", "third_lot"] (SpM mg 3 M_middle) := by
  skip
  refine fn_d F sc_middle fun cdv A outer s H E hr => ?_
  have hu := hr.units; have hu5 := hr.units5
  exact (mss_cons (ms_expr (me_callP h_check_lot_2 (hr.mono (by omega)) rfl takesF (ma_cons (me_var 0 rfl (by first | exact .inl rfl | exact .inr (.inl rfl) | exact .inr (.inr rfl))) (ma_cons me_non ma_nil)) (.cons (.cons .nil))))
  (mss_cons (ms_expr (me_callP h_check_lot_2 (hr.mono (by omega)) rfl takesF (ma_cons (me_var 1 rfl (by first | exact .inl rfl | exact .inr (.inl rfl) | exact .inr (.inr rfl))) (ma_cons me_non ma_nil)) (.cons (.cons .nil))))
  (mss_cons (ms_expr (me_callP h_check_lot_2 (hr.mono (by omega)) rfl takesF (ma_cons (me_var 2 rfl (by first | exact .inl rfl | exact .inr (.inl rfl) | exact .inr (.inr rfl))) (ma_cons me_non ma_nil)) (.cons (.cons .nil))))
  (mss_one (ms_ret (me_callP h_raw_middle_3 (hr.mono (by omega)) rfl takesF (ma_cons (me_var 0 rfl (by first | exact .inl rfl | exact .inr (.inl rfl) | exact .inr (.inr rfl))) (ma_cons (me_var 1 rfl (by first | exact .inl rfl | exact .inr (.inl rfl) | exact .inr (.inr rfl))) (ma_cons (me_var 2 rfl (by first | exact .inl rfl | exact .inr (.inl rfl) | exact .inr (.inr rfl))) ma_nil))) (.cons (.cons (.cons .nil)))))))))
theorem o_middle_3 (Z : Fx K mg) (h_check_lot_2 : Fk P w K mg base 3 "check_lot" 2 [] M_check_lot) (h_raw_middle_3 : Fk P w K mg base 1 "raw_middle" 3 [] M_raw_middle) {f : Addr} {fd : FuncData} (F : FunD K "middle" "middle" (defArgs (top 9)) (defBody (top 9)) (defScope (top 9)) [] [] f fd) (hm : mg "middle" = some (.ref f)) : Fk P w K mg base 4 "middle" 3 [] M_middle := Fk.same F (k_middle Z h_check_lot_2 h_raw_middle_3 F hm) hm (fun _ _ _ _ _ _ us hl => match us, hl with | [_, _, _], _ => rfl)
theorem o_middle_0_third_lot_lot_other_lot (Z : Fx K mg) (h_check_lot_2 : Fk P w K mg base 3 "check_lot" 2 [] M_check_lot) (h_raw_middle_3 : Fk P w K mg base 1 "raw_middle" 3 [] M_raw_middle) {f : Addr} {fd : FuncData} (F : FunD K "middle" "middle" (defArgs (top 9)) (defBody (top 9)) (defScope (top 9)) [] [] f fd) (hm : mg "middle" = some (.ref f)) : Fk P w K mg base 4 "middle" 0 ["third_lot", "lot", "other_lot"] (fun l s => M_middle (pick [1, 2, 0] l) s) := Fk.plain F [1, 2, 0] (k_middle Z h_check_lot_2 h_raw_middle_3 F hm) hm (fun _ _ _ _ _ _ us ws hl hl2 => match us, hl, ws, hl2 with | [], _, [_, _, _], _ => rfl) (by decide)
theorem sc__law_same : FnScope N__law_same ["given", "due"] (defScope (top 13)) := ⟨rfl, rfl, rfl, nd__law_same, rfl, by decide +kernel, by decide +kernel⟩
theorem k__law_same (Z : Fx K mg) {f : Addr} {fd : FuncData} (F : FunD K "_law_same" "_law_same" (defArgs (top 13)) (defBody (top 13)) (defScope (top 13)) [] [] f fd) (hm : mg "_law_same" = some (.ref f)) : ∀ n : Nat, FnOk P w K mg base (L2.CX P w) (1 + n) f fd ["given", "due"] (SpM mg 2 (M__law_same n))
  | 0 => fn_bad
  | n + 1 => by
    have h__law_same_2 : Fk P w K mg base (1 + n) "_law_same" 2 [] (M__law_same n) := Fk.same F (k__law_same Z  F hm n) hm (fun _ _ _ _ _ _ us hl => match us, hl with | [_, _], _ => rfl)
    refine fn_d F sc__law_same fun cdv A outer s H E hr => ?_
    have hu := hr.units; have hu5 := hr.units5
    exact (mss_cons (ms_if (mt_val (me_callB (mc_isi Z.sub) rfl Z.n_isinstance rfl (ma_cons (me_var 1 rfl (by first | exact .inl rfl | exact .inr (.inl rfl) | exact .inr (.inr rfl))) (ma_cons (me_tup (ma_cons (me_ty rfl Z.n_list rfl) (ma_cons (me_ty rfl Z.n_tuple rfl) ma_nil))) ma_nil)))) (mss_cons (ms_if (MW.mt (mw_or (mt_cmp (mo_ne hu) (me_callB (mc_isi Z.sub) rfl Z.n_isinstance rfl (ma_cons (me_var 0 rfl (by first | exact .inl rfl | exact .inr (.inl rfl) | exact .inr (.inr rfl))) (ma_cons (me_ty rfl Z.n_list rfl) ma_nil))) (me_callB (mc_isi Z.sub) rfl Z.n_isinstance rfl (ma_cons (me_var 1 rfl (by first | exact .inl rfl | exact .inr (.inl rfl) | exact .inr (.inr rfl))) (ma_cons (me_ty rfl Z.n_list rfl) ma_nil)))) (mw_or1 (mt_cmp (mo_ne hu) (me_callB (mc_isi Z.sub) rfl Z.n_isinstance rfl (ma_cons (me_var 0 rfl (by first | exact .inl rfl | exact .inr (.inl rfl) | exact .inr (.inr rfl))) (ma_cons (me_ty rfl Z.n_tuple rfl) ma_nil))) (me_callB (mc_isi Z.sub) rfl Z.n_isinstance rfl (ma_cons (me_var 1 rfl (by first | exact .inl rfl | exact .inr (.inl rfl) | exact .inr (.inr rfl))) (ma_cons (me_ty rfl Z.n_tuple rfl) ma_nil))))))) (mss_one (ms_ret me_bl)) mss_nil)
  (mss_cons (ms_if (mt_cmp (mo_ne hu) (me_callB (mc_len) rfl Z.n_len rfl (ma_cons (me_var 0 rfl (by first | exact .inl rfl | exact .inr (.inl rfl) | exact .inr (.inr rfl))) ma_nil)) (me_callB (mc_len) rfl Z.n_len rfl (ma_cons (me_var 1 rfl (by first | exact .inl rfl | exact .inr (.inl rfl) | exact .inr (.inr rfl))) ma_nil))) (mss_one (ms_ret me_bl)) mss_nil)
  (mss_one (ms_ret (me_callB (mc_all rfl) rfl Z.n_all rfl (ma_cons (me_lc (own := [("k", 2)]) mk_f (by decide) rfl nd__law_same (mi_range1 rfl Z.n_range (me_callB (mc_len) rfl Z.n_len rfl (ma_cons (me_var 1 rfl (by first | exact .inl rfl | exact .inr (.inl rfl) | exact .inr (.inr rfl))) ma_nil))) (L2.blkOk_by (by conv => { lhs; arg 1; whnf }; conv => { lhs; arg 2; whnf }; decide +kernel)) (fun _ _ _ _ _ => pg_name nd__law_same (i := 2) rfl (by first | exact .inl rfl | exact .inr rfl)) (fun _ _ _ _ _ => mts_nil) (fun _ _ _ _ _ => (me_callP h__law_same_2 hr rfl tk0 (ma_cons (me_ix (me_var 0 rfl (by first | exact .inl rfl | exact .inr (.inl rfl) | exact .inr (.inr rfl))) (me_var 2 rfl (by first | exact .inl rfl | exact .inr (.inl rfl) | exact .inr (.inr rfl)))) (ma_cons (me_ix (me_var 1 rfl (by first | exact .inl rfl | exact .inr (.inl rfl) | exact .inr (.inr rfl))) (me_var 2 rfl (by first | exact .inl rfl | exact .inr (.inl rfl) | exact .inr (.inr rfl)))) ma_nil)) (.cons (.cons .nil))))) ma_nil)))))) mss_nil)
  (mss_cons (ms_if (MW.mt (mw_or (mt_val (me_callB (mc_isi Z.sub) rfl Z.n_isinstance rfl (ma_cons (me_var 0 rfl (by first | exact .inl rfl | exact .inr (.inl rfl) | exact .inr (.inr rfl))) (ma_cons (me_tup (ma_cons (me_ty rfl Z.n_list rfl) (ma_cons (me_ty rfl Z.n_tuple rfl) ma_nil))) ma_nil)))) (mw_or1 (mt_cmp (mo_ne hu) (me_callB (mc_isi Z.sub) rfl Z.n_isinstance rfl (ma_cons (me_var 0 rfl (by first | exact .inl rfl | exact .inr (.inl rfl) | exact .inr (.inr rfl))) (ma_cons (me_ty rfl Z.n_bool rfl) ma_nil))) (me_callB (mc_isi Z.sub) rfl Z.n_isinstance rfl (ma_cons (me_var 1 rfl (by first | exact .inl rfl | exact .inr (.inl rfl) | exact .inr (.inr rfl))) (ma_cons (me_ty rfl Z.n_bool rfl) ma_nil))))))) (mss_one (ms_ret me_bl)) mss_nil)
  (mss_cons (ms_if (mt_cmp (mo_isN) (me_var 1 rfl (by first | exact .inl rfl | exact .inr (.inl rfl) | exact .inr (.inr rfl))) me_non) (mss_one (ms_ret (me_cmp (mo_isN) (me_var 0 rfl (by first | exact .inl rfl | exact .inr (.inl rfl) | exact .inr (.inr rfl))) me_non))) mss_nil)
  (mss_one (ms_ret (me_cmp (mo_eq hu) (me_var 0 rfl (by first | exact .inl rfl | exact .inr (.inl rfl) | exact .inr (.inr rfl))) (me_var 1 rfl (by first | exact .inl rfl | exact .inr (.inl rfl) | exact .inr (.inr rfl)))))))))
theorem o__law_same (Z : Fx K mg) {f : Addr} {fd : FuncData} (F : FunD K "_law_same" "_law_same" (defArgs (top 13)) (defBody (top 13)) (defScope (top 13)) [] [] f fd) (hm : mg "_law_same" = some (.ref f)) : Fk P w K mg base 7 "_law_same" 2 [] (M__law_same 6) := Fk.same F (k__law_same Z  F hm 6) hm (fun _ _ _ _ _ _ us hl => match us, hl with | [_, _], _ => rfl)
theorem sc_law : FnScope N_law ["script"] (defScope (top 14)) := ⟨rfl, rfl, rfl, nd_law, rfl, by decide +kernel, by decide +kernel⟩
theorem k_law (Z : Fx K mg) (h__law_draws_of_1 : Fk P w K mg base 1 "_law_draws_of" 1 [] M__law_draws_of) (h__law_dip_2 : Fk P w K mg base 1 "_law_dip" 2 [] M__law_dip) (h_middle_3 : Fk P w K mg base 4 "middle" 3 [] M_middle) (h_middle_0_third_lot_lot_other_lot : Fk P w K mg base 4 "middle" 0 ["third_lot", "lot", "other_lot"] (fun l s => M_middle (pick [1, 2, 0] l) s)) (h__law_same_2 : Fk P w K mg base 7 "_law_same" 2 [] (M__law_same 6)) {f : Addr} {fd : FuncData} (F : FunD K "law" "law" (defArgs (top 14)) (defBody (top 14)) (defScope (top 14)) [] [] f fd) (hm : mg "law" = some (.ref f)) : FnOk P w K mg base (L2.CX P w) 8 f fd ["script"] (SpM mg 1 M_law) := by
  skip
  refine fn_d F sc_law fun cdv A outer s H E hr => ?_
  have hu := hr.units; have hu5 := hr.units5
  exact (mss_cons (ms_set 1 nd_law rfl (by first | exact .inl rfl | exact .inr rfl) me_int)
  (mss_cons (ms_for (passes_of rfl) rfl (mi_seq (me_bin (mo_add mk_f) (me_lst mk_f (ma_cons (me_var 1 rfl (by first | exact .inl rfl | exact .inr (.inl rfl) | exact .inr (.inr rfl))) ma_nil)) (me_slice mk_f (me_var 0 rfl (by first | exact .inl rfl | exact .inr (.inl rfl) | exact .inr (.inr rfl))) mp_none (mp_some me_int)))) (mg_name 2 nd_law rfl (by first | exact .inl rfl | exact .inr rfl)) (mss_cons (ms_set 3 nd_law rfl (by first | exact .inl rfl | exact .inr rfl) (me_callP h__law_draws_of_1 (hr.mono (by omega)) rfl takesF (ma_cons (me_var 2 rfl (by first | exact .inl rfl | exact .inr (.inl rfl) | exact .inr (.inr rfl))) ma_nil) (.cons .nil)))
  (mss_cons (ms_setLc 4 (own := [("k", 5)]) mk_c (by decide) rfl nd_law rfl rfl (mi_range1 rfl Z.n_range (me_callP h__law_dip_2 (hr.mono (by omega)) rfl takesF (ma_cons (me_var 3 rfl (by first | exact .inl rfl | exact .inr (.inl rfl) | exact .inr (.inr rfl))) (ma_cons me_int ma_nil)) (.cons (.cons .nil)))) (L2.blkOk_by (by conv => { lhs; arg 1; whnf }; conv => { lhs; arg 2; whnf }; decide +kernel)) (fun _ _ _ _ _ => pg_name nd_law (i := 5) rfl (by first | exact .inl rfl | exact .inr rfl)) (fun _ _ _ _ _ => mts_nil) (fun _ _ _ _ _ => (me_var 5 rfl (by first | exact .inl rfl | exact .inr (.inl rfl) | exact .inr (.inr rfl)))) (L2.sw_true rfl rfl rfl rfl))
  (mss_cons (ms_for (passes_of rfl) rfl (mi_range1 rfl Z.n_range (me_callP h__law_dip_2 (hr.mono (by omega)) rfl takesF (ma_cons (me_var 3 rfl (by first | exact .inl rfl | exact .inr (.inl rfl) | exact .inr (.inr rfl))) (ma_cons me_int ma_nil)) (.cons (.cons .nil)))) (mg_name 5 nd_law rfl (by first | exact .inl rfl | exact .inr rfl)) (mss_one (ms_expr (me_bmL PySem.F.plainAttrs_list PySem.F.slot_list_append PySem.F.type_list_append mm_append (me_var 4 rfl (by first | exact .inl rfl | exact .inr (.inl rfl) | exact .inr (.inr rfl))) (ma_cons (me_callP h__law_dip_2 (hr.mono (by omega)) rfl takesF (ma_cons (me_var 3 rfl (by first | exact .inl rfl | exact .inr (.inl rfl) | exact .inr (.inr rfl))) (ma_cons (me_ix (me_lst mk_f (ma_cons me_int (ma_cons me_int (ma_cons (me_bin mo_pow me_int me_int) (ma_cons (me_bin mo_pow me_int me_int) (ma_cons (me_bin mo_pow me_int me_int) ma_nil)))))) (me_callP h__law_dip_2 (hr.mono (by omega)) rfl takesF (ma_cons (me_var 3 rfl (by first | exact .inl rfl | exact .inr (.inl rfl) | exact .inr (.inr rfl))) (ma_cons me_int ma_nil)) (.cons (.cons .nil)))) ma_nil)) (.cons (.cons .nil))) ma_nil)))))
  (mss_cons (ms_set 4 nd_law rfl (by first | exact .inl rfl | exact .inr rfl) (me_sortedSet mk_c rfl rfl Z.n_sorted rfl Z.n_set (me_var 4 rfl (by first | exact .inl rfl | exact .inr (.inl rfl) | exact .inr (.inr rfl)))))
  (mss_cons (ms_set 6 nd_law rfl (by first | exact .inl rfl | exact .inr rfl) (me_lst mk_c ma_nil))
  (mss_cons (ms_set 7 nd_law rfl (by first | exact .inl rfl | exact .inr rfl) (me_lst mk_c ma_nil))
  (mss_cons (ms_set 8 nd_law rfl (by first | exact .inl rfl | exact .inr rfl) (me_lst mk_c ma_nil))
  (mss_cons (ms_set 9 nd_law rfl (by first | exact .inl rfl | exact .inr rfl) (me_lst mk_c ma_nil))
  (mss_cons (ms_for (passes_of rfl) rfl (mi_seq (me_var 4 rfl (by first | exact .inl rfl | exact .inr (.inl rfl) | exact .inr (.inr rfl)))) (mg_name 5 nd_law rfl (by first | exact .inl rfl | exact .inr rfl)) (mss_cons (ms_set 14 nd_law rfl (by first | exact .inl rfl | exact .inr rfl) (me_callP h__law_dip_2 (hr.mono (by omega)) rfl takesF (ma_cons (me_var 3 rfl (by first | exact .inl rfl | exact .inr (.inl rfl) | exact .inr (.inr rfl))) (ma_cons me_int ma_nil)) (.cons (.cons .nil))))
  (mss_cons (ms_if (mt_cmp (mo_eq hu) (me_bin mo_band (me_var 14 rfl (by first | exact .inl rfl | exact .inr (.inl rfl) | exact .inr (.inr rfl))) me_int) me_int) (mss_one (ms_expr (me_bmL PySem.F.plainAttrs_list PySem.F.slot_list_append PySem.F.type_list_append mm_append (me_var 6 rfl (by first | exact .inl rfl | exact .inr (.inl rfl) | exact .inr (.inr rfl))) (ma_cons (me_var 5 rfl (by first | exact .inl rfl | exact .inr (.inl rfl) | exact .inr (.inr rfl))) ma_nil)))) mss_nil)
  (mss_cons (ms_if (mt_cmp (mo_eq hu) (me_bin mo_band (me_var 14 rfl (by first | exact .inl rfl | exact .inr (.inl rfl) | exact .inr (.inr rfl))) me_int) me_int) (mss_one (ms_expr (me_bmL PySem.F.plainAttrs_list PySem.F.slot_list_append PySem.F.type_list_append mm_append (me_var 7 rfl (by first | exact .inl rfl | exact .inr (.inl rfl) | exact .inr (.inr rfl))) (ma_cons (me_var 5 rfl (by first | exact .inl rfl | exact .inr (.inl rfl) | exact .inr (.inr rfl))) ma_nil)))) mss_nil)
  (mss_cons (ms_if (mt_cmp (mo_eq hu) (me_bin mo_band (me_var 14 rfl (by first | exact .inl rfl | exact .inr (.inl rfl) | exact .inr (.inr rfl))) me_int) me_int) (mss_one (ms_expr (me_bmL PySem.F.plainAttrs_list PySem.F.slot_list_append PySem.F.type_list_append mm_append (me_var 8 rfl (by first | exact .inl rfl | exact .inr (.inl rfl) | exact .inr (.inr rfl))) (ma_cons (me_var 5 rfl (by first | exact .inl rfl | exact .inr (.inl rfl) | exact .inr (.inr rfl))) ma_nil)))) mss_nil)
  (mss_one (ms_if (mt_cmp (mo_in hu5) (me_var 14 rfl (by first | exact .inl rfl | exact .inr (.inl rfl) | exact .inr (.inr rfl))) (me_lst mk_f (ma_cons me_int (ma_cons me_int (ma_cons me_int (ma_cons me_int ma_nil)))))) (mss_one (ms_expr (me_bmL PySem.F.plainAttrs_list PySem.F.slot_list_append PySem.F.type_list_append mm_append (me_var 9 rfl (by first | exact .inl rfl | exact .inr (.inl rfl) | exact .inr (.inr rfl))) (ma_cons (me_var 5 rfl (by first | exact .inl rfl | exact .inr (.inl rfl) | exact .inr (.inr rfl))) ma_nil)))) mss_nil)))))))
  (mss_cons (ms_set 10 nd_law rfl (by first | exact .inl rfl | exact .inr rfl) (me_callTy (mc_tuple) rfl Z.n_tuple rfl (ma_cons (me_var 6 rfl (by first | exact .inl rfl | exact .inr (.inl rfl) | exact .inr (.inr rfl))) ma_nil)))
  (mss_cons (ms_set 11 nd_law rfl (by first | exact .inl rfl | exact .inr rfl) (me_callTy (mc_tuple) rfl Z.n_tuple rfl (ma_cons (me_var 7 rfl (by first | exact .inl rfl | exact .inr (.inl rfl) | exact .inr (.inr rfl))) ma_nil)))
  (mss_cons (ms_set 12 nd_law rfl (by first | exact .inl rfl | exact .inr rfl) (me_callTy (mc_tuple) rfl Z.n_tuple rfl (ma_cons (me_var 8 rfl (by first | exact .inl rfl | exact .inr (.inl rfl) | exact .inr (.inr rfl))) ma_nil)))
  (mss_cons (ms_set 13 nd_law rfl (by first | exact .inl rfl | exact .inr rfl) (me_lst mk_c (ma_cons (me_callP h_middle_3 (hr.mono (by omega)) rfl takesF (ma_cons (me_var 10 rfl (by first | exact .inl rfl | exact .inr (.inl rfl) | exact .inr (.inr rfl))) (ma_cons (me_var 11 rfl (by first | exact .inl rfl | exact .inr (.inl rfl) | exact .inr (.inr rfl))) (ma_cons (me_var 12 rfl (by first | exact .inl rfl | exact .inr (.inl rfl) | exact .inr (.inr rfl))) ma_nil))) (.cons (.cons (.cons .nil)))) (ma_cons (me_callP h_middle_3 (hr.mono (by omega)) rfl takesF (ma_cons (me_var 12 rfl (by first | exact .inl rfl | exact .inr (.inl rfl) | exact .inr (.inr rfl))) (ma_cons (me_var 10 rfl (by first | exact .inl rfl | exact .inr (.inl rfl) | exact .inr (.inr rfl))) (ma_cons (me_var 11 rfl (by first | exact .inl rfl | exact .inr (.inl rfl) | exact .inr (.inr rfl))) ma_nil))) (.cons (.cons (.cons .nil)))) (ma_cons (me_callP h_middle_3 (hr.mono (by omega)) rfl takesF (ma_cons (me_var 11 rfl (by first | exact .inl rfl | exact .inr (.inl rfl) | exact .inr (.inr rfl))) (ma_cons (me_var 12 rfl (by first | exact .inl rfl | exact .inr (.inl rfl) | exact .inr (.inr rfl))) (ma_cons (me_var 10 rfl (by first | exact .inl rfl | exact .inr (.inl rfl) | exact .inr (.inr rfl))) ma_nil))) (.cons (.cons (.cons .nil)))) (ma_cons (me_callP h_middle_3 (hr.mono (by omega)) rfl takesF (ma_cons (me_var 11 rfl (by first | exact .inl rfl | exact .inr (.inl rfl) | exact .inr (.inr rfl))) (ma_cons (me_var 10 rfl (by first | exact .inl rfl | exact .inr (.inl rfl) | exact .inr (.inr rfl))) (ma_cons (me_var 12 rfl (by first | exact .inl rfl | exact .inr (.inl rfl) | exact .inr (.inr rfl))) ma_nil))) (.cons (.cons (.cons .nil)))) (ma_cons (me_callP h_middle_3 (hr.mono (by omega)) rfl takesF (ma_cons (me_var 10 rfl (by first | exact .inl rfl | exact .inr (.inl rfl) | exact .inr (.inr rfl))) (ma_cons (me_var 12 rfl (by first | exact .inl rfl | exact .inr (.inl rfl) | exact .inr (.inr rfl))) (ma_cons (me_var 11 rfl (by first | exact .inl rfl | exact .inr (.inl rfl) | exact .inr (.inr rfl))) ma_nil))) (.cons (.cons (.cons .nil)))) ma_nil)))))))
  (mss_cons (ms_expr (me_bmL PySem.F.plainAttrs_list PySem.F.slot_list_append PySem.F.type_list_append mm_append (me_var 13 rfl (by first | exact .inl rfl | exact .inr (.inl rfl) | exact .inr (.inr rfl))) (ma_cons (me_callK0 h_middle_0_third_lot_lot_other_lot (hr.mono (by omega)) rfl takesF (mk_cons (me_var 10 rfl (by first | exact .inl rfl | exact .inr (.inl rfl) | exact .inr (.inr rfl))) (mk_cons (me_var 12 rfl (by first | exact .inl rfl | exact .inr (.inl rfl) | exact .inr (.inr rfl))) (mk_cons (me_var 11 rfl (by first | exact .inl rfl | exact .inr (.inl rfl) | exact .inr (.inr rfl))) mk_nil))) (.cons (.cons (.cons .nil)))) ma_nil)))
  (mss_cons (ms_if (mt_not (mt_val (me_callP h__law_same_2 (hr.mono (by omega)) rfl takesF (ma_cons (me_var 13 rfl (by first | exact .inl rfl | exact .inr (.inl rfl) | exact .inr (.inr rfl))) (ma_cons (me_lc (own := [("k", 5)]) mk_f (by decide) rfl nd_law (mi_range1 rfl Z.n_range me_int) (L2.blkOk_by (by conv => { lhs; arg 1; whnf }; conv => { lhs; arg 2; whnf }; decide +kernel)) (fun _ _ _ _ _ => pg_name nd_law (i := 5) rfl (by first | exact .inl rfl | exact .inr rfl)) (fun _ _ _ _ _ => mts_nil) (fun _ _ _ _ _ => (me_callTy (mc_tuple) rfl Z.n_tuple rfl (ma_cons (me_var 9 rfl (by first | exact .inl rfl | exact .inr (.inl rfl) | exact .inr (.inr rfl))) ma_nil)))) ma_nil)) (.cons (.cons .nil))))) (mss_one (ms_ret me_bl)) mss_nil)
  (mss_one (ms_if (mt_not (mt_val (me_callP h__law_same_2 (hr.mono (by omega)) rfl takesF (ma_cons (me_lst mk_f (ma_cons (me_callP h_middle_3 (hr.mono (by omega)) rfl takesF (ma_cons (me_var 10 rfl (by first | exact .inl rfl | exact .inr (.inl rfl) | exact .inr (.inr rfl))) (ma_cons (me_var 10 rfl (by first | exact .inl rfl | exact .inr (.inl rfl) | exact .inr (.inr rfl))) (ma_cons (me_var 12 rfl (by first | exact .inl rfl | exact .inr (.inl rfl) | exact .inr (.inr rfl))) ma_nil))) (.cons (.cons (.cons .nil)))) (ma_cons (me_callP h_middle_3 (hr.mono (by omega)) rfl takesF (ma_cons (me_var 11 rfl (by first | exact .inl rfl | exact .inr (.inl rfl) | exact .inr (.inr rfl))) (ma_cons (me_var 12 rfl (by first | exact .inl rfl | exact .inr (.inl rfl) | exact .inr (.inr rfl))) (ma_cons (me_var 11 rfl (by first | exact .inl rfl | exact .inr (.inl rfl) | exact .inr (.inr rfl))) ma_nil))) (.cons (.cons (.cons .nil)))) (ma_cons (me_callP h_middle_3 (hr.mono (by omega)) rfl takesF (ma_cons (me_var 10 rfl (by first | exact .inl rfl | exact .inr (.inl rfl) | exact .inr (.inr rfl))) (ma_cons (me_var 12 rfl (by first | exact .inl rfl | exact .inr (.inl rfl) | exact .inr (.inr rfl))) (ma_cons (me_var 12 rfl (by first | exact .inl rfl | exact .inr (.inl rfl) | exact .inr (.inr rfl))) ma_nil))) (.cons (.cons (.cons .nil)))) ma_nil)))) (ma_cons (me_lst mk_f (ma_cons (me_var 10 rfl (by first | exact .inl rfl | exact .inr (.inl rfl) | exact .inr (.inr rfl))) (ma_cons (me_var 11 rfl (by first | exact .inl rfl | exact .inr (.inl rfl) | exact .inr (.inr rfl))) (ma_cons (me_var 12 rfl (by first | exact .inl rfl | exact .inr (.inl rfl) | exact .inr (.inr rfl))) ma_nil)))) ma_nil)) (.cons (.cons .nil))))) (mss_one (ms_ret me_bl)) mss_nil))))))))))))))))))
  (mss_one (ms_ret me_bl))))
theorem o_law_1 (Z : Fx K mg) (h__law_draws_of_1 : Fk P w K mg base 1 "_law_draws_of" 1 [] M__law_draws_of) (h__law_dip_2 : Fk P w K mg base 1 "_law_dip" 2 [] M__law_dip) (h_middle_3 : Fk P w K mg base 4 "middle" 3 [] M_middle) (h_middle_0_third_lot_lot_other_lot : Fk P w K mg base 4 "middle" 0 ["third_lot", "lot", "other_lot"] (fun l s => M_middle (pick [1, 2, 0] l) s)) (h__law_same_2 : Fk P w K mg base 7 "_law_same" 2 [] (M__law_same 6)) {f : Addr} {fd : FuncData} (F : FunD K "law" "law" (defArgs (top 14)) (defBody (top 14)) (defScope (top 14)) [] [] f fd) (hm : mg "law" = some (.ref f)) : Fk P w K mg base 8 "law" 1 [] M_law := Fk.same F (k_law Z h__law_draws_of_1 h__law_dip_2 h_middle_3 h_middle_0_third_lot_lot_other_lot h__law_same_2 F hm) hm (fun _ _ _ _ _ _ us hl => match us, hl with | [_], _ => rfl)
end Lw

namespace Lw
open PySem PySem.Spec PyProof.Rows L2 Mi

def d__law_draws_of : He.DefD := ⟨("_law_draws_of", none), "_law_draws_of", "_law_draws_of", defArgs (top 11), defBody (top 11), defScope (top 11), [], []⟩
def d__law_dip : He.DefD := ⟨("_law_dip", none), "_law_dip", "_law_dip", defArgs (top 12), defBody (top 12), defScope (top 12), [], []⟩
def d_is_ascending : He.DefD := ⟨("is_ascending", none), "is_ascending", "is_ascending", defArgs (top 5), defBody (top 5), defScope (top 5), [], []⟩
def d_is_int : He.DefD := ⟨("is_int", none), "is_int", "is_int", defArgs (top 4), defBody (top 4), defScope (top 4), [], []⟩
def d_is_lot : He.DefD := ⟨("is_lot", none), "is_lot", "is_lot", defArgs (top 6), defBody (top 6), defScope (top 6), [], []⟩
def d_check_lot : He.DefD := ⟨("check_lot", none), "check_lot", "check_lot", defArgs (top 7), defBody (top 7), defScope (top 7), [], []⟩
def d_raw_middle : He.DefD := ⟨("raw_middle", none), "raw_middle", "raw_middle", defArgs (top 8), defBody (top 8), defScope (top 8), [], []⟩
def d_middle : He.DefD := ⟨("middle", none), "middle", "middle", defArgs (top 9), defBody (top 9), defScope (top 9), [], []⟩
def d__law_same : He.DefD := ⟨("_law_same", none), "_law_same", "_law_same", defArgs (top 13), defBody (top 13), defScope (top 13), [], []⟩
def d_law : He.DefD := ⟨("law", none), "law", "law", defArgs (top 14), defBody (top 14), defScope (top 14), [], []⟩
def fn : List He.DefD := [d__law_draws_of, d__law_dip, d_is_ascending, d_is_int, d_is_lot, d_check_lot, d_raw_middle, d_middle, d__law_same, d_law]
def fa : List He.Fa := [.glo "_law_draws_of", .glo "_law_dip", .glo "is_ascending", .glo "is_int", .glo "is_lot", .glo "check_lot", .glo "raw_middle", .glo "middle", .glo "_law_same", .glo "law", .free "int", .free "all", .free "range", .free "len", .free "isinstance", .free "bool", .free "tuple", .free "sorted", .free "list", .free "set", .glo "InvalidLot", .exc "InvalidLot"]
abbrev RR : PySem.W.OpenRow := PySem.W.OpenLaw.row PySem.Challenge.rw_thingwise_k02_middle
abbrev hk : PySem.W.Hook := hookY 5 (factsB fa) fn
def ob (s : PySem.W.SharedT) : He.AlD := obsYG 5 (factsB fa) fn (HandSHeadRun.getT s)
theorem ob_eq (s : PySem.W.SharedT) : ob s = hk.obs s.abs := obsYG_eq (HandSHeadRun.getT_eq s)
abbrev loose : List Str := ["InvalidLot", "ThingError", "_law_dip", "_law_draws_of", "_law_same", "check_lot", "is_ascending", "is_int", "is_lot", "middle", "raw_middle"]
theorem run (w : World) : HandSHeadRun.RunEq RR (PySem.W.view RR.prog [14]) hk ob 4000 loose w := by
  intro os
  kernel_rfl
theorem facts {P : Program} {w : World} {K : PySem.W.Frag} {h : Heap} {mg : MG} {f : Addr} (X : K.In h) (G : h.Ns mainGlobals mg) (hfa : mg ("law" : Str) = some (.ref f)) (c : SaysY (factsB fa) fn K) :
    ∃ fd : FuncData, (∀ (s : Shared) (v : Value), BindsTo s fd ⟨[v], []⟩ [("script", v)]) ∧ ∀ base : Heap, K.In base → base.Ns mainGlobals mg → FnOk P w K mg base (L2.CX P w) 8 f fd ["script"] (SpM mg 1 M_law) := by
  have cf := c.facts
  obtain ⟨fd__law_draws_of, F__law_draws_of⟩ := c.def_ 0 (d := d__law_draws_of) rfl
  have g__law_draws_of := He.glo_ok X G (factsB_at cf 0 (f := .glo "_law_draws_of") rfl)
  obtain ⟨fd__law_dip, F__law_dip⟩ := c.def_ 1 (d := d__law_dip) rfl
  have g__law_dip := He.glo_ok X G (factsB_at cf 1 (f := .glo "_law_dip") rfl)
  obtain ⟨fd_is_ascending, F_is_ascending⟩ := c.def_ 2 (d := d_is_ascending) rfl
  have g_is_ascending := He.glo_ok X G (factsB_at cf 2 (f := .glo "is_ascending") rfl)
  obtain ⟨fd_is_int, F_is_int⟩ := c.def_ 3 (d := d_is_int) rfl
  have g_is_int := He.glo_ok X G (factsB_at cf 3 (f := .glo "is_int") rfl)
  obtain ⟨fd_is_lot, F_is_lot⟩ := c.def_ 4 (d := d_is_lot) rfl
  have g_is_lot := He.glo_ok X G (factsB_at cf 4 (f := .glo "is_lot") rfl)
  obtain ⟨fd_check_lot, F_check_lot⟩ := c.def_ 5 (d := d_check_lot) rfl
  have g_check_lot := He.glo_ok X G (factsB_at cf 5 (f := .glo "check_lot") rfl)
  obtain ⟨fd_raw_middle, F_raw_middle⟩ := c.def_ 6 (d := d_raw_middle) rfl
  have g_raw_middle := He.glo_ok X G (factsB_at cf 6 (f := .glo "raw_middle") rfl)
  obtain ⟨fd_middle, F_middle⟩ := c.def_ 7 (d := d_middle) rfl
  have g_middle := He.glo_ok X G (factsB_at cf 7 (f := .glo "middle") rfl)
  obtain ⟨fd__law_same, F__law_same⟩ := c.def_ 8 (d := d__law_same) rfl
  have g__law_same := He.glo_ok X G (factsB_at cf 8 (f := .glo "_law_same") rfl)
  obtain ⟨fd_law, F_law⟩ := c.def_ 9 (d := d_law) rfl
  have g_law := He.glo_ok X G (factsB_at cf 9 (f := .glo "law") rfl)
  have Z : Fx K mg := ⟨He.free_ok X G (factsB_at cf 10 (f := .free "int") rfl), He.free_ok X G (factsB_at cf 11 (f := .free "all") rfl), He.free_ok X G (factsB_at cf 12 (f := .free "range") rfl), He.free_ok X G (factsB_at cf 13 (f := .free "len") rfl), He.free_ok X G (factsB_at cf 14 (f := .free "isinstance") rfl), He.free_ok X G (factsB_at cf 15 (f := .free "bool") rfl), He.free_ok X G (factsB_at cf 16 (f := .free "tuple") rfl), He.free_ok X G (factsB_at cf 17 (f := .free "sorted") rfl), He.free_ok X G (factsB_at cf 18 (f := .free "list") rfl), He.free_ok X G (factsB_at cf 19 (f := .free "set") rfl), fun Y e1 e2 => ownEx_of (He.glo_ok X G (factsB_at cf 20 (f := .glo "InvalidLot") rfl)) (He.exc_ok (factsB_at cf 21 (f := .exc "InvalidLot") rfl)) e1 e2, subB_ok⟩
  have e := hfa.symm.trans g_law
  cases e
  refine ⟨fd_law, fun s v => FunD.bindsA (ps := ["script"]) F_law (fun _ _ _ _ _ _ us hl => match us, hl with | [_], _ => rfl) s [v] rfl, fun base _ _ => ?_⟩
  have h__law_draws_of_1 := o__law_draws_of_1 (P := P) (w := w) (base := base) Z  F__law_draws_of g__law_draws_of
  have h__law_dip_2 := o__law_dip_2 (P := P) (w := w) (base := base) Z  F__law_dip g__law_dip
  have h_is_ascending_1 := o_is_ascending_1 (P := P) (w := w) (base := base) Z  F_is_ascending g_is_ascending
  have h_is_int_1 := o_is_int_1 (P := P) (w := w) (base := base) Z  F_is_int g_is_int
  have h_is_lot_2 := o_is_lot_2 (P := P) (w := w) (base := base) Z h_is_int_1 h_is_ascending_1 F_is_lot g_is_lot
  have h_check_lot_2 := o_check_lot_2 (P := P) (w := w) (base := base) Z h_is_lot_2 F_check_lot g_check_lot
  have h_raw_middle_3 := o_raw_middle_3 (P := P) (w := w) (base := base) Z  F_raw_middle g_raw_middle
  have h_middle_3 := o_middle_3 (P := P) (w := w) (base := base) Z h_check_lot_2 h_raw_middle_3 F_middle g_middle
  have h_middle_0_third_lot_lot_other_lot := o_middle_0_third_lot_lot_other_lot (P := P) (w := w) (base := base) Z h_check_lot_2 h_raw_middle_3 F_middle g_middle
  have h__law_same_2 := o__law_same (P := P) (w := w) (base := base) Z  F__law_same g__law_same
  exact k_law Z h__law_draws_of_1 h__law_dip_2 h_middle_3 h_middle_0_third_lot_lot_other_lot h__law_same_2 F_law g_law
end Lw


open PySem PySem.W PySem.Calls PyProof.Rows
theorem PySem.Challenge.cw_thingwise_k02_middle_holds : PySem.Challenge.rw_thingwise_k02_middle.Holds := by
  w_on; o_law
  refine HandSHeadRun.head_any (r := OpenLaw.row PySem.Challenge.rw_thingwise_k02_middle) (q := view (OpenLaw.row PySem.Challenge.rw_thingwise_k02_middle).prog [14]) (H := Lw.hk) (ob := Lw.ob) (M := 4000) (loose := Lw.loose) (d := HandSHeadRun.topDef (OpenLaw.row PySem.Challenge.rw_thingwise_k02_middle).prog 14) (kwd := []) Lw.ob_eq
    (by kernel_rfl) (fun s => by kernel_rfl) Lw.run (by kernel_rfl) (by kernel_rfl) (by kernel_rfl) (by rfl) (by first | assumption | decide +kernel) (by decide +kernel) ⟨rfl, rfl, rfl, rfl, rfl, by decide +kernel⟩ ?hw ?hc
  case hw => w_witness2
  case hc =>
    refine L2.walk_ofE (l := PySem.Challenge.rw_thingwise_k02_middle) (n := 63) (k := 8) (x := "script") (CX := L2.CX0) rfl (by decide) (by kernel_rfl) ⟨rfl, by decide, by decide⟩ ?F (fun _ _ _ _ z => z)
    case F =>
      intro w mg fa h Y G hmg0
      obtain ⟨K, KX, c⟩ := Y
      have hmg : mg ("law" : PySem.Str) = some (.ref fa) := by
        have e : (HandSHeadRun.topDef (OpenLaw.row PySem.Challenge.rw_thingwise_k02_middle).prog 14).name = ("law" : PySem.Str) := by kernel_rfl
        rw [← e]
        exact hmg0
      obtain ⟨fd, hb, hF⟩ := Lw.facts (P := (PySem.Challenge.rw_thingwise_k02_middle).prog) (w := w) KX G hmg c
      exact ⟨K, fd, fun vs H Q _ => Mi.SpM mg 1 Lw.M_law vs H Q L2.E0, KX, hb, fun H a ns hl hO hS => Mi.law_sp c.1 Lw.law_true H a ns hl hO hS, fun base k1 k2 => Mi.ok_nox (hF base k1 k2)⟩

