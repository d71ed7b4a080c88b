import PyProof.Rows.All
import Wide.All
import OpenK.AllK
import Wide.FinOn
import HandS.ForMost
import HandS.ForExc
import HandS.Wide
import HandS.CallSlots
import HandS.TryMany
import HandS.TryElse
import HandS.FStr
import HandS.TupAny
import HandS.Flt
import HandS.TupLe
import HandS.IsInst
import HandS.Small
import HandS.NoneIn
import HandS.Zip
import HandS.Rev
import HandS.Deep
import HandS.RaiseMore
import HandS.ExcIs
import HandS.ExcField
import HandS.ExcInit
import HandS.HotCalls
import KE.KExcIs
import HandS.Conv
import HandS.WideBits
import KE.DataEq
import KE.Datum
import KE.DataCmp
import KE.DatumOrd
import KE.DatumMore
import KE.DatumMoreOrd
import KE.SortData
import HandS.SetKeys
import HandS.Iter
import HandS.More
import PyProof.ListStr
import HandS.Set
import HandS.SetFor
import HandS.SortKw
import KE.KEqNest
import HandS.Defaults
import HandS.HeadHook1
import HandS.HeadHook2
import HandS.HeadHook3
import HandS.HeadHook4
import HandS.Head0
import HandS.Head1
import HandS.Head2
import HandS.HeadEnd
import HandS.EndBits
import KE.IntBitsLaws
import PySem.Challenge.RW_stovework_k58_roster_dealt
set_option Elab.async false
set_option linter.all false
set_option maxRecDepth 100000
set_option maxHeartbeats 4000000
namespace L3
open PySem PySem.Spec L2
inductive W where
  | non | bl (b : Bool) | int (i : Int) | str (x : Str) | tup (xs : List W) | scr (xs : List W) | lv (xs : List W) | ref (a : Addr) | exc (a : Addr) (c : Nat) (d : Option Addr)
  deriving Inhabited
abbrev Sx := List (Option W)
inductive GO where
  | lst (xs : List W)
  | dic (lk : Bool) (kvs : List (Key × W))
  | dit (lk : Bool) (kvs : List (List Key × W))
  | ins (c : Nat) (fs : List (Str × W))
  | xd (fs : List (Str × W))
abbrev G := Addr → Option GO
def gup (g : G) (a : Addr) (o : GO) : G := fun b => if b = a then some o else g b
def gdel (g : G) (a : Addr) : G := fun b => if b = a then none else g b
theorem gdel_same {g : G} {a : Addr} : gdel g a a = none := by simp [gdel]
theorem gdel_ne {g : G} {a b : Addr} (h : b ≠ a) : gdel g a b = g b := by simp [gdel, h]
theorem gup_same {g : G} {a : Addr} {o : GO} : gup g a o a = some o := by simp [gup]
def Ext (g g' : G) : Prop := ∀ a o, g a = some o → g' a = some o
theorem Ext.refl {g : G} : Ext g g := fun _ _ h => h
theorem Ext.trans {g g1 g2 : G} (a : Ext g g1) (b : Ext g1 g2) : Ext g g2 := fun c o h => b c o (a c o h)
theorem gup_ne {g : G} {a b : Addr} {o : GO} (h : b ≠ a) : gup g a o b = g b := by simp [gup, h]
structure OC3 where
  name : Str
  init : Nat
  meths : List (Str × Nat)
structure Env3 where
  K : PySem.W.Frag
  cls : Nat → Addr
  ocl : Nat → Addr := fun _ => 0
  on : Nat := 0
  fl : List Str := []
  xfl : List Str := []
def FrL (K : PySem.W.Frag) (H : Hp) (a : Addr) (xs : List V) : Prop := (∃ o, H a = some (.frz o (.lst xs))) ∨ SqL K (fun _ => none) a xs
theorem sql_of_none {K : PySem.W.Frag} {H : Hp} {a : Addr} {xs : List V} (h : SqL K (fun _ => none) a xs) : SqL K H a xs := by
  rcases h with (h | ⟨o, h⟩) | h
  · cases h
  · cases h
  · exact .inr h
theorem FrL.sq {K : PySem.W.Frag} {H : Hp} {a : Addr} {xs : List V} (h : FrL K H a xs) : SqL K H a xs := by
  rcases h with ⟨o, h⟩ | h
  · exact .inl (.inr ⟨o, h⟩)
  · exact sql_of_none h
section
variable (K : PySem.W.Frag)
mutual
def RV (H : Hp) : W → V → Prop
  | .non, v => v = .non
  | .bl b, v => v = .bl b
  | .int i, v => v = .int i
  | .str x, v => v = .str x
  | .ref a, v => v = .ref a
  | .exc a _ _, v => v = .ref a
  | .tup xs, v => ∃ p ys, v = .ref p ∧ H p = some (.tup ys) ∧ RVs H xs ys
  | .scr xs, v => ∃ p ys, v = .ref p ∧ FrL K H p ys ∧ RVs H xs ys
  | .lv xs, v => ∃ p ys, v = .ref p ∧ (∃ o, H p = some (.frz o (.lst ys))) ∧ RVs H xs ys
def RVs (H : Hp) : List W → List V → Prop
  | [], vs => vs = []
  | x :: xs, vs => ∃ v r, vs = v :: r ∧ RV H x v ∧ RVs H xs r
end
end
structure TK (H H' : Hp) : Prop where
  tup : ∀ a xs, H a = some (.tup xs) → H' a = some (.tup xs)
  frz : ∀ a o xs, H a = some (.frz o (.lst xs)) → H' a = some (.frz o (.lst xs))
theorem TK.refl {H : Hp} : TK H H := ⟨fun _ _ h => h, fun _ _ _ h => h⟩
theorem TK.trans {H H1 H2 : Hp} (a : TK H H1) (b : TK H1 H2) : TK H H2 := ⟨fun c xs h => b.tup c xs (a.tup c xs h), fun c o u h => b.frz c o u (a.frz c o u h)⟩
theorem TK.new {H : Hp} {p : Addr} {o : HO} (h : H p = none) : TK H (upd H p o) :=
  ⟨fun a xs e => by rw [upd_ne (ne_of_none e h)]; exact e, fun a x u e => by rw [upd_ne (ne_of_none e h)]; exact e⟩
def Ow : HO → Prop
  | .tup _ => False
  | .frz _ (.lst _) => False
  | _ => True
theorem TK.wr {H : Hp} {p : Addr} {o u : HO} (h : H p = some u) (m : Ow u) : TK H (upd H p o) := by
  have k : ∀ a v, H a = some v → ¬ Ow v → a ≠ p := fun a v e n z => by subst z; rw [h] at e; cases e; exact n m
  exact ⟨fun a xs e => by rw [upd_ne (k a _ e fun z => z)]; exact e, fun a x v e => by rw [upd_ne (k a _ e fun z => z)]; exact e⟩
section
variable {K : PySem.W.Frag} {H H' : Hp}
theorem TK.frl (t : TK H H') {a : Addr} {xs : List V} (h : FrL K H a xs) : FrL K H' a xs := by
  rcases h with ⟨o, h⟩ | h
  · exact .inl ⟨o, t.frz _ _ _ h⟩
  · exact .inr h
mutual
theorem RV.keep (t : TK H H') : ∀ {x : W} {v : V}, RV K H x v → RV K H' x v
  | .non, _, h => by simpa [RV] using h
  | .bl _, _, h => by simpa [RV] using h
  | .int _, _, h => by simpa [RV] using h
  | .str _, _, h => by simpa [RV] using h
  | .ref _, _, h => by simpa [RV] using h
  | .exc _ _ _, _, h => by simpa [RV] using h
  | .tup xs, _, h => by
    rw [RV] at h ⊢
    obtain ⟨p, ys, e, s, r⟩ := h
    exact ⟨p, ys, e, t.tup _ _ s, RVs.keep t r⟩
  | .scr xs, _, h => by
    rw [RV] at h ⊢
    obtain ⟨p, ys, e, s, r⟩ := h
    exact ⟨p, ys, e, t.frl s, RVs.keep t r⟩
  | .lv xs, _, h => by
    rw [RV] at h ⊢
    obtain ⟨p, ys, e, ⟨o, s⟩, r⟩ := h
    exact ⟨p, ys, e, ⟨o, t.frz _ _ _ s⟩, RVs.keep t r⟩
theorem RVs.keep (t : TK H H') : ∀ {xs : List W} {vs : List V}, RVs K H xs vs → RVs K H' xs vs
  | [], _, h => by simpa [RVs] using h
  | x :: xs, _, h => by
    rw [RVs] at h ⊢
    obtain ⟨v, r, e, h1, h2⟩ := h
    exact ⟨v, r, e, RV.keep t h1, RVs.keep t h2⟩
end
theorem RVs.nil : RVs K H [] [] := by rw [RVs]
theorem RVs.cons {x : W} {v : V} {xs : List W} {vs : List V} (h : RV K H x v) (r : RVs K H xs vs) : RVs K H (x :: xs) (v :: vs) := by
  rw [RVs]; exact ⟨v, vs, rfl, h, r⟩
theorem RVs.cons_inv {x : W} {xs : List W} {vs : List V} (h : RVs K H (x :: xs) vs) : ∃ v r, vs = v :: r ∧ RV K H x v ∧ RVs K H xs r := by
  rw [RVs] at h; exact h
theorem RVs.nil_inv {vs : List V} (h : RVs K H [] vs) : vs = [] := by rw [RVs] at h; exact h
theorem RVs.length : ∀ {xs : List W} {vs : List V}, RVs K H xs vs → vs.length = xs.length
  | [], _, h => by rw [h.nil_inv]; rfl
  | x :: xs, _, h => by obtain ⟨v, r, rfl, _, h2⟩ := h.cons_inv; simp [h2.length]
theorem RVs.append : ∀ {xs zs : List W} {vs us : List V}, RVs K H xs vs → RVs K H zs us → RVs K H (xs ++ zs) (vs ++ us)
  | [], _, _, _, h, q => by rw [h.nil_inv]; exact q
  | x :: xs, _, _, _, h, q => by obtain ⟨v, r, rfl, h1, h2⟩ := h.cons_inv; exact .cons h1 (h2.append q)
theorem RVs.get : ∀ {xs : List W} {vs : List V} {i : Nat} {x : W}, RVs K H xs vs → xs[i]? = some x → ∃ v, vs[i]? = some v ∧ RV K H x v
  | [], _, _, _, _, e => by simp at e
  | x :: xs, _, 0, _, h, e => by obtain ⟨v, r, rfl, h1, h2⟩ := h.cons_inv; simp at e; subst e; exact ⟨v, rfl, h1⟩
  | x :: xs, _, i + 1, _, h, e => by
    obtain ⟨v, r, rfl, h1, h2⟩ := h.cons_inv
    obtain ⟨u, q1, q2⟩ := h2.get (i := i) (by simpa using e)
    exact ⟨u, by simpa using q1, q2⟩
theorem RVs.take : ∀ {xs : List W} {vs : List V} (n : Nat), RVs K H xs vs → RVs K H (xs.take n) (vs.take n)
  | _, _, 0, _ => by simpa using RVs.nil
  | [], _, _ + 1, h => by rw [h.nil_inv]; exact RVs.nil
  | x :: xs, _, n + 1, h => by obtain ⟨v, r, rfl, h1, h2⟩ := h.cons_inv; exact .cons h1 (h2.take n)
theorem RVs.drop : ∀ {xs : List W} {vs : List V} (n : Nat), RVs K H xs vs → RVs K H (xs.drop n) (vs.drop n)
  | _, _, 0, h => by simpa using h
  | [], _, _ + 1, h => by rw [h.nil_inv]; exact RVs.nil
  | x :: xs, _, n + 1, h => by obtain ⟨v, r, rfl, h1, h2⟩ := h.cons_inv; simpa using h2.drop n
theorem RVs.set {z : W} {u : V} (q : RV K H z u) : ∀ {xs : List W} {vs : List V} (n : Nat), RVs K H xs vs → RVs K H (xs.set n z) (vs.set n u)
  | [], _, _, h => by rw [h.nil_inv]; exact RVs.nil
  | x :: xs, _, 0, h => by obtain ⟨v, r, rfl, h1, h2⟩ := h.cons_inv; exact .cons q h2
  | x :: xs, _, n + 1, h => by obtain ⟨v, r, rfl, h1, h2⟩ := h.cons_inv; exact .cons h1 (h2.set q n)
theorem RVs.reverse : ∀ {xs : List W} {vs : List V}, RVs K H xs vs → RVs K H xs.reverse vs.reverse
  | [], _, h => by rw [h.nil_inv]; exact RVs.nil
  | x :: xs, _, h => by obtain ⟨v, r, rfl, h1, h2⟩ := h.cons_inv; simpa using (h2.reverse).append (.cons h1 .nil)
theorem RVs.dropLast {xs : List W} {vs : List V} (h : RVs K H xs vs) : RVs K H xs.dropLast vs.dropLast := by
  rw [List.dropLast_eq_take, List.dropLast_eq_take, h.length]; exact h.take _
theorem RVs.ints : ∀ {is : List Int} {vs : List V}, RVs K H (is.map W.int) vs → vs = is.map V.int
  | [], _, h => h.nil_inv
  | i :: is, _, h => by obtain ⟨v, r, rfl, h1, h2⟩ := h.cons_inv; rw [RV] at h1; rw [h1, h2.ints]; rfl
theorem RVs.of_ints : ∀ (is : List Int), RVs K H (is.map W.int) (is.map V.int)
  | [] => .nil
  | i :: is => .cons (by rw [RV]) (RVs.of_ints is)
theorem RVs.strs : ∀ {is : List Str} {vs : List V}, RVs K H (is.map W.str) vs → vs = is.map V.str
  | [], _, h => h.nil_inv
  | i :: is, _, h => by obtain ⟨v, r, rfl, h1, h2⟩ := h.cons_inv; rw [RV] at h1; rw [h1, h2.strs]; rfl
theorem RVs.of_strs : ∀ (is : List Str), RVs K H (is.map W.str) (is.map V.str)
  | [] => .nil
  | i :: is => .cons (by rw [RV]) (RVs.of_strs is)
end
def SR (K : PySem.W.Frag) (H : Hp) : Sx → St → Prop
  | [], σ => σ = []
  | o :: s, σ => ∃ q r, σ = q :: r ∧ (∀ w, o = some w → ∃ v, q = some v ∧ RV K H w v) ∧ SR K H s r
section
variable {K : PySem.W.Frag} {H H' : Hp}
theorem SR.keep (t : TK H H') : ∀ {s : Sx} {σ : St}, SR K H s σ → SR K H' s σ
  | [], _, h => h
  | o :: s, _, h => by
    obtain ⟨q, r, rfl, h1, h2⟩ := h
    refine ⟨q, r, rfl, fun w e => ?_, SR.keep t h2⟩
    obtain ⟨v, e1, e2⟩ := h1 w e
    exact ⟨v, e1, e2.keep t⟩
theorem SR.get : ∀ {s : Sx} {σ : St} {i : Nat} {w : W}, SR K H s σ → s[i]? = some (some w) → ∃ v, σ[i]? = some (some v) ∧ RV K H w v
  | [], _, _, _, _, e => by simp at e
  | o :: s, _, 0, w, h, e => by
    obtain ⟨q, r, rfl, h1, h2⟩ := h
    simp at e
    obtain ⟨v, e1, e2⟩ := h1 w e
    exact ⟨v, by simp [e1], e2⟩
  | o :: s, _, i + 1, w, h, e => by
    obtain ⟨q, r, rfl, h1, h2⟩ := h
    obtain ⟨v, e1, e2⟩ := SR.get (i := i) h2 (by simpa using e)
    exact ⟨v, by simpa using e1, e2⟩
theorem SR.set {w : W} {v : V} (q : RV K H w v) : ∀ {s : Sx} {σ : St} (i : Nat), SR K H s σ → SR K H (s.set i (some w)) (σ.set i (some v))
  | [], σ, _, h => by rw [show σ = [] from h]; exact rfl
  | o :: s, _, 0, h => by
    obtain ⟨q', r, rfl, h1, h2⟩ := h
    exact ⟨some v, r, rfl, fun w' e => by cases e; exact ⟨v, rfl, q⟩, h2⟩
  | o :: s, _, i + 1, h => by
    obtain ⟨q', r, rfl, h1, h2⟩ := h
    exact ⟨q', _, rfl, h1, SR.set q i h2⟩
theorem SR.unset : ∀ {s : Sx} {σ : St} (i : Nat), SR K H s σ → SR K H (s.set i none) (σ.set i none)
  | [], σ, _, h => by rw [show σ = [] from h]; exact rfl
  | o :: s, _, 0, h => by
    obtain ⟨q', r, rfl, h1, h2⟩ := h
    exact ⟨none, r, rfl, (fun w' e => nomatch e), h2⟩
  | o :: s, _, i + 1, h => by
    obtain ⟨q', r, rfl, h1, h2⟩ := h
    exact ⟨q', _, rfl, h1, SR.unset i h2⟩
theorem SR.start : ∀ {ws : List W} {vs : List V} (n : Nat), RVs K H ws vs → SR K H (ws.map some ++ List.replicate n none) (vs.map some ++ List.replicate n none)
  | [], _, n, h => by
    rw [h.nil_inv]
    show SR K H (List.replicate n none) (List.replicate n none)
    induction n with
    | zero => rfl
    | succ n ih => exact ⟨none, _, rfl, (fun w e => nomatch e), ih⟩
  | w :: ws, _, n, h => by
    obtain ⟨v, r, rfl, h1, h2⟩ := h.cons_inv
    exact ⟨some v, _, rfl, fun w' e => by cases e; exact ⟨v, rfl, h1⟩, SR.start n h2⟩
theorem SR.length : ∀ {s : Sx} {σ : St}, SR K H s σ → σ.length = s.length
  | [], σ, h => by rw [show σ = [] from h]; rfl
  | o :: s, _, h => by obtain ⟨q', r, rfl, h1, h2⟩ := h; simp [h2.length]
end
def kW : Key → W
  | .inl i => .int i
  | .inr x => .str x
def ktW (l : List Key) : W := .tup (l.map kW)
section
variable (E : Env3)
def DicAt (H : Hp) (a : Addr) (lk : Bool) (u : HO) : Prop := match lk with
  | false => H a = some u
  | true => ∃ od, H a = some (.frz od u)
def RO (H : Hp) (a : Addr) : GO → Prop
  | .lst xs => ∃ ys, H a = some (.lst ys) ∧ RVs E.K H xs ys
  | .dic lk kvs => ∃ l : List (Key × V), DicAt H a lk (.dK l) ∧ kvs.map (·.1) = l.map (·.1) ∧ RVs E.K H (kvs.map (·.2)) (l.map (·.2))
  | .dit lk kvs => ∃ l : List (List Key × V), DicAt H a lk (.dT l) ∧ kvs.map (·.1) = l.map (·.1) ∧ RVs E.K H (kvs.map (·.2)) (l.map (·.2))
  | .ins c fs => c < E.on ∧ (∀ f ∈ fs.map (·.1), f ∈ E.fl) ∧ ∃ dx l, H a = some (.ins (E.ocl c) dx l) ∧ fs.map (·.1) = l.map (·.1) ∧ RVs E.K H (fs.map (·.2)) (l.map (·.2))
  | .xd fs => ∃ l, H a = some (.xd l) ∧ fs.map (·.1) = l.map (·.1) ∧ RVs E.K H (fs.map (·.2)) (l.map (·.2))
def GR (g : G) (H : Hp) : Prop := ∀ a o, g a = some o → RO E H a o
end
section
variable {E : Env3} {H H' : Hp} {g : G}
theorem DicAt.some {a : Addr} {lk : Bool} {u : HO} (h : DicAt H a lk u) (m : Ow u) (m' : ∀ od, Ow (.frz od u)) : ∃ v, H a = some v ∧ Ow v := by
  cases lk with
  | false => exact ⟨_, h, m⟩
  | true => obtain ⟨od, e⟩ := h; exact ⟨_, e, m' od⟩
theorem DicAt.keep {a : Addr} {lk : Bool} {u : HO} (k : H' a = H a) (h : DicAt H a lk u) : DicAt H' a lk u := by
  cases lk with
  | false => exact k.trans h
  | true => obtain ⟨od, e⟩ := h; exact ⟨od, k.trans e⟩
theorem RO.some {a : Addr} {o : GO} (h : RO E H a o) : ∃ u, H a = some u ∧ Ow u := by
  cases o with
  | lst xs => obtain ⟨ys, e, _⟩ := h; exact ⟨_, e, trivial⟩
  | dic lk xs => obtain ⟨ys, e, _⟩ := h; exact e.some trivial fun _ => trivial
  | dit lk xs => obtain ⟨ys, e, _⟩ := h; exact e.some trivial fun _ => trivial
  | ins c xs => obtain ⟨_, _, dx, ys, e, _⟩ := h; exact ⟨_, e, trivial⟩
  | xd xs => obtain ⟨ys, e, _⟩ := h; exact ⟨_, e, trivial⟩
theorem RO.keep {a : Addr} {o : GO} (t : TK H H') (k : H' a = H a) (h : RO E H a o) : RO E H' a o := by
  cases o with
  | lst xs => obtain ⟨ys, e, r⟩ := h; exact ⟨ys, k.trans e, r.keep t⟩
  | dic lk xs => obtain ⟨ys, e, q, r⟩ := h; exact ⟨ys, e.keep k, q, r.keep t⟩
  | dit lk xs => obtain ⟨ys, e, q, r⟩ := h; exact ⟨ys, e.keep k, q, r.keep t⟩
  | ins c xs => obtain ⟨o1, o2, dx, ys, e, q, r⟩ := h; exact ⟨o1, o2, dx, ys, k.trans e, q, r.keep t⟩
  | xd xs => obtain ⟨ys, e, q, r⟩ := h; exact ⟨ys, k.trans e, q, r.keep t⟩
theorem GR.sub (h : GR E g H) {g2 : G} (e : ∀ a o, g2 a = some o → g a = some o) : GR E g2 H := fun a o q => h a o (e a o q)
theorem GR.free (h : GR E g H) {a : Addr} (n : H a = none) : g a = none := by
  cases e : g a with
  | none => rfl
  | some o => obtain ⟨u, q, _⟩ := (h a o e).some; rw [n] at q; cases q
theorem GR.new (h : GR E g H) {p : Addr} {o : GO} {u : HO} (n : H p = none) (r : RO E (upd H p u) p o) : GR E (gup g p o) (upd H p u) := fun a x e => by
  by_cases z : a = p
  · subst z; rw [gup_same] at e; cases e; exact r
  · rw [gup_ne z] at e; exact (h a x e).keep (TK.new n) (upd_ne z)
theorem GR.new' (h : GR E g H) {p : Addr} {u : HO} (n : H p = none) : GR E g (upd H p u) := fun a x e =>
  (h a x e).keep (TK.new n) (upd_ne fun z => by subst z; rw [h.free n] at e; cases e)
theorem GR.wr (h : GR E g H) {p : Addr} {o o' : GO} {u : HO} (e0 : g p = some o) (r : RO E (upd H p u) p o') : GR E (gup g p o') (upd H p u) := fun a x e => by
  obtain ⟨v, hv, m⟩ := (h p o e0).some
  by_cases z : a = p
  · subst z; rw [gup_same] at e; cases e; exact r
  · rw [gup_ne z] at e; exact (h a x e).keep (TK.wr hv m) (upd_ne z)
theorem GR.tk (h : GR E g H) {p : Addr} {o : GO} {u : HO} (e0 : g p = some o) : TK H (upd H p u) := by
  obtain ⟨v, hv, m⟩ := (h p o e0).some
  exact TK.wr hv m
end
end L3
set_option maxRecDepth 100000
set_option maxHeartbeats 4000000
namespace L3
open PySem PySem.Spec L2 PyProof.Rows
section
variable {prog : Program} {w : World} {A : Around} {E : Value → Shared → Prop} {s : Shared}
theorem extend_rev {R : Result → Shared → Prop} (hh : A.handled = none) {it l S : Addr} {items : Array Value} (res : Value) (c₀ : Nat) (hS : s.heap.get? S = some { cls := .type "list", data := .seq #[] c₀ })
    (hit : s.heap.IsRevIter it l ((items.size : Int) - 1)) (hl : s.heap.IsList l items) (hne : l ≠ it) (hSi : S ≠ it) (hSl : S ≠ l) (hn : items.size ≤ sizeLine)
    (hR : ∀ h' tk acc' c', (∀ b o, b ≠ S → b ≠ it → s.heap.get? b = some o → h'.get? b = some o) → h'.get? S = some { cls := .type "list", dict := none, data := .seq acc' c', slots := #[] } →
      ItemsOf (fun i v => items[items.size - 1 - i]? = some v) acc' items.size → R (.ok (.ret res)) { s with heap := h', toks := tk }) :
    wpAny (model prog w) A.in1 (Builtin.List.listExtendWith (.ref S) (.ref it) res)
      (fun fin s' => match fin with | .done f => R (.ok f) s' | .again c' => c'.quiet = true ∧ codeAny (model prog w) A c' R s') (fun e s' => R (.error e) s') s := by
  have W := (Walks.listRev (prog := prog) (w := w) (A := A.in1) hh it l hne items).toS
  have hSf : S ∉ [it, l] := by simp only [List.mem_cons, List.not_mem_nil, or_false, not_or]; exact ⟨hSi, hSl⟩
  have hT : s.TypeIs (.ref it) "list_reverseiterator" := hit.typeIs
  have h1 : Builtin.List.listSameRef (.ref S) (.ref it) = false := by simp [Builtin.List.listSameRef, hSi]
  unfold Builtin.List.listExtendWith
  refine wpAny_bind (wpAny_typeOf hT ?_)
  rw [if_neg (by rw [h1]; decide)]
  refine wpAny_bind (wpAny_pyIter_revIter hit ?_)
  refine wpAny_bind (wpAny_holding ?_)
  unfold Builtin.List.listLengthHint
  refine wpAny_bind (wpAny_specialOf hT RT.nolen_lri ?_)
  show wpAny _ A.in1 (specialOf (Value.ref it) (Str.ofString "__length_hint__") >>= _) _ _ _
  refine wpAny_bind (wpAny_specialOf hT RT.hint_lri ?_)
  generalize hid : ("list_reverseiterator.__length_hint__" : String) = id0
  wp_delta
  rw [show splitId id0 = some ("list_reverseiterator", "__length_hint__") from by subst hid; decide +kernel]
  subst hid
  refine wpAny_bind (wpAny_isInstance (b := true) hT (by rw [isSubtype_type]; kernel_rfl) ?_)
  refine wpAny_pure ?_
  rw [if_neg (by decide)]
  have e0 : ((items.size : Nat) : Int) - 1 - ((0 : Nat) : Int) = (items.size : Int) - 1 := by omega
  refine wpAny_pure ⟨plainId_quiet F.plain_extend_loop _, codeAny_extend_loopS W hn _ hSf _ items.size 0 _ _ _ rfl (Nat.zero_le _) ⟨Nat.zero_le _, by rw [e0]; exact hit, hl⟩ hS (ItemsOf.nil _) fun s' acc' c' hm hS' hacc => ?_⟩
  rw [Moved.eq_with hm]
  refine hR s'.heap s'.toks acc' c' (fun b o hb hb2 e => hm.heap b o (fun hmem => ?_) e) hS' hacc
  rcases List.mem_cons.mp hmem with e' | hmem
  · exact hb e'
  · exact hb2 (List.mem_singleton.mp hmem)
theorem call_list_revI {it l : Addr} {items : Array Value} {Q : Value → Shared → Prop} (hh : A.handled = none) (hit : s.heap.IsRevIter it l ((items.size : Int) - 1)) (hl : s.heap.IsList l items) (hne : l ≠ it) (hn : items.size ≤ sizeLine)
    (hQ : ∀ h' tk acc' c', (∀ b o, b ≠ it → s.heap.get? b = some o → h'.get? b = some o) →
      h'.get? s.heap.objs.size = some { cls := .type "list", dict := none, data := .seq acc' c', slots := #[] } → ItemsOf (fun i v => items[items.size - 1 - i]? = some v) acc' items.size → Q (.ref s.heap.objs.size) { s with heap := h', toks := tk }) :
    wpAny (model prog w) A (call (.type "list") [.ref it]) Q E s := by
  obtain ⟨oi, hoi, _⟩ := id hit
  obtain ⟨ol, hol, _⟩ := id hl
  have hSi : s.heap.objs.size ≠ it := Nat.ne_of_gt (Heap.lt_size hoi)
  have hSl : s.heap.objs.size ≠ l := Nat.ne_of_gt (Heap.lt_size hol)
  refine callType_codes (Q₁ := fun obj s₁ => obj = .ref s.heap.objs.size ∧ s₁ = { s with heap := s.heap.push { cls := .type "list", data := .seq #[] } }) F.called_list (F.typeCall_list_1 _) F.entry_list_init
    (code_list_new _ ⟨rfl, rfl⟩) fun obj s₁ h₁ => ?_
  obtain ⟨rfl, rfl⟩ := h₁
  have hS : (s.heap.push { cls := .type "list", data := .seq #[] }).get? s.heap.objs.size = some { cls := .type "list", data := .seq #[] } := Heap.get?_push_size _ rfl
  refine ⟨⟨_, hS, rfl⟩, F.args_list_init_2 _ _, ?_⟩
  show wpAny _ _ (do let old ← Builtin.List.listItems (.ref s.heap.objs.size); Builtin.List.listUpdate (.ref s.heap.objs.size) (fun _ => #[]); letGo old.toList.reverse; Builtin.List.listExtendWith (.ref s.heap.objs.size) (.ref it) .none) _ _ _
  refine wpAny_bind ?_
  unfold Builtin.List.listItems
  refine wpAny_bind (wpAny_seqItems hS rfl (wpAny_pure ?_))
  show wpAny _ _ (updateSeq s.heap.objs.size (fun _ => #[]) >>= fun _ => letGo (#[] : Array Value).toList.reverse >>= fun _ => Builtin.List.listExtendWith (.ref s.heap.objs.size) (.ref it) .none) _ _ _
  refine wpAny_bind (wpAny_updateSeq hS rfl ?_)
  have hS₂ := Heap.get?_update_self (Obj.mapSeq (fun _ => (#[] : Array Value))) hS rfl
  have oth : ∀ b o, s.heap.get? b = some o → ((s.heap.push { cls := .type "list", data := .seq #[] }).update s.heap.objs.size (Obj.mapSeq (fun _ => (#[] : Array Value)))).get? b = some o :=
    fun b o e => (Heap.get?_update_other _ _ (Ne.symm (Nat.ne_of_lt (Heap.lt_size e)))).trans (Heap.get?_push_of_some _ e)
  have hit2 : ((s.heap.push { cls := .type "list", data := .seq #[] }).update s.heap.objs.size (Obj.mapSeq (fun _ => (#[] : Array Value)))).IsRevIter it l ((items.size : Int) - 1) := hit.at fun o e => oth it o e
  refine wpAny_bind (wpAny_letGo ?_)
  refine extend_rev (A := A.in1) (R := wants (fun r s₂ => r = Value.none ∧ Q (.ref s.heap.objs.size) s₂) E) (s := { s with heap := (s.heap.push { cls := .type "list", data := .seq #[] }).update s.heap.objs.size (Obj.mapSeq (fun _ => (#[] : Array Value))) }) hh .none _ hS₂ hit2 ?_ hne hSi hSl hn fun h' tk acc' c' hk hS' hacc => ?_
  · obtain ⟨o, ho, r⟩ := id hl
    exact ⟨o, oth l o ho, r⟩
  · exact ⟨rfl, hQ h' tk acc' c' (fun b o hb e => hk b o (Nat.ne_of_lt (Heap.lt_size e)) hb (oth b o e)) hS' hacc⟩
end
def tLstRev (K : PySem.W.Frag) (te : TE) : TE := fun σ H Q => te σ H fun v H1 => ∃ (a : Addr) (xs : List V), v = .ref a ∧ SqL K H1 a xs ∧ ∀ q, H1 q = none → Q (.ref q) (upd H1 q (.lst xs.reverse))
section
variable {X : Cx}
theorem pe_lstRev {e : Expr} {te : TE} {p p2 pos pos2 : Pos} (hc : X.calm = true) (hg : Gl X "list") (hm : X.mg "list" = none) (hg2 : Gl X "reversed") (hm2 : X.mg "reversed" = none) (he : PE X e te)
    (hs : starEach [e] X.env = (false, eval e X.env) :: starEach [] X.env)
    (hs2 : starEach [.Call (.Name "reversed" p2) [e] [] pos2] X.env = (false, eval (.Call (.Name "reversed" p2) [e] [] pos2) X.env) :: starEach [] X.env := by rfl) :
    PE X (.Call (.Name "list" p) [.Call (.Name "reversed" p2) [e] [] pos2] [] pos) (tLstRev X.K te) := by
  refine ⟨fun pins s σ H Q I h => ?_⟩
  refine Call_ (ld_blt I hg hm boot_list (PyProof.Rows.callWith_type1 (args_cons (Call_ (ld_blt I hg2 hm2 PyProof.Rows.boot_reversed (PyProof.Rows.callWith_type1 (args_cons (thn (he.run pins s σ H _ I h) fun u s1 ⟨v, H1, I1, r1, q1⟩ => args_nil ?_) hs) hs rfl))) hs2) hs2 rfl))
  obtain ⟨a, xs, ev, hq, q⟩ := q1
  subst ev
  obtain rfl : u = Value.ref a := r1
  obtain ⟨its, rv, p', hz⟩ := I1.list hq
  refine call_reversed_list p'.isList (args_nil ?_)
  have k0 : ∀ b o, s1.heap.get? b = some o → (s1.heap.push (revObj a ((its.toArray.size : Int) - 1))).get? b = some o := fun b o e => Heap.get?_push_of_some _ e
  have I2 : L2.Inv X pins σ H1 { s1 with heap := s1.heap.push (revObj a ((its.toArray.size : Int) - 1)) } := I1.kept (t' := s1.toks) k0
  obtain ⟨f0, f1, f2, f3, f4, f5⟩ := I1.fpOk (H' := H1) (b := s1.heap.objs.size) (Nat.le_refl _) (I1.hok.fresh (Nat.le_refl _))
  have hl := p'.isList
  obtain ⟨ol, hol, _⟩ := id hl
  have hne : a ≠ s1.heap.objs.size := Nat.ne_of_lt (Heap.lt_size hol)
  have hn : its.toArray.size ≤ sizeLine := by rw [List.size_toArray, ← rv.length]; exact hz
  refine call_list_revI (s := { s1 with heap := s1.heap.push (revObj a ((its.toArray.size : Int) - 1)) }) (I1.ok.hd hc) ⟨_, Heap.get?_push_size _ rfl, rfl, rfl⟩ (hl.push _) hne hn fun h' tk acc c' hk hS hi => ?_
  have hS' : h'.get? (s1.heap.push (revObj a ((its.toArray.size : Int) - 1))).objs.size = some { cls := .type "list", dict := none, data := .seq acc.toList.toArray c', slots := #[] } := by rw [Array.toArray_toList]; exact hS
  have hfr : H1 (s1.heap.push (revObj a ((its.toArray.size : Int) - 1))).objs.size = none := I2.hok.fresh (Nat.le_refl _)
  refine ⟨.ref _, upd H1 _ (.lst xs.reverse), I2.turnedNew (t' := tk) (ch := [s1.heap.objs.size]) (fun b o hb e => hk b o (by simpa using hb) e) (fun b hb => ?_) (Nat.le_refl _) (show ObjOk X.prog X.w _ h' _ (.lst xs.reverse) from ⟨by rw [List.length_reverse]; exact hz, acc.toList, c', RT.vals_rev rv hi, hS'⟩), rfl, q _ hfr⟩
  rw [List.mem_singleton.mp hb]
  exact I1.fpOk (H' := H1) (b := s1.heap.objs.size) (Nat.le_refl _) (I1.hok.fresh (Nat.le_refl _))
end
def tChain3 (r r' r'' : R2) (ta tb tc td : TE) : TE := fun σ H Q => ta σ H fun x H1 => tb σ H1 fun y H2 => r x y H2 fun z H3 => ∃ k, z = .bl k ∧
  (if k = true then tc σ H3 fun w' H4 => r' y w' H4 fun z2 H5 => ∃ k2, z2 = .bl k2 ∧ (if k2 = true then td σ H5 fun w2 H6 => r'' w' w2 H6 Q else Q (.bl false) H5) else Q (.bl false) H3)
section
variable {X : Cx} {a b c d : Expr} {ta tb tc td : TE} {pos : Pos}
theorem pe_chain3 {op op' op'' : CmpOp} {r r' r'' : R2} (ho : OpR X (compareOp op) r) (ho' : OpR X (compareOp op') r') (ho'' : OpR X (compareOp op'') r'') (ha : PE X a ta) (hb : PE X b tb) (hc : PE X c tc) (hd : PE X d td)
    (hm : lastMarks [op, op', op''] [b, c, d] = false) : PE X (.Compare a [op, op', op''] [b, c, d] pos) (tChain3 r r' r'' ta tb tc td) := by
  refine ⟨fun pins s σ H Q I h => ?_⟩
  refine Compare_chain (thn (ha.run pins s σ H _ I h) fun v s1 ⟨x, H1, I1, r1, q1⟩ => chain_link (thn (hb.run pins s1 σ H1 _ I1 q1) fun u s2 ⟨y, H2, I2, r2, q2⟩ =>
    thn (ho pins s2 σ H2 x y v u _ I2 r1 r2 q2) fun d s3 ⟨z, H3, I3, r3, k, e, q3⟩ => ?_)) hm
  subst e
  cases r3
  refine wpAny_truthy_bool ?_
  cases k with
  | false => exact ite_ff ⟨.bl false, H3, I3, rfl, q3⟩
  | true =>
    refine ite_tt (chain_link (thn (hc.run pins s3 σ H3 _ I3 q3) fun w' s4 ⟨z', H4, I4, r4, q4⟩ => thn (ho' pins s4 σ H4 y z' u w' _ I4 r2 r4 q4) fun d2 s5 ⟨z2, H5, I5, r5, k2, e2, q5⟩ => ?_))
    subst e2
    cases r5
    refine wpAny_truthy_bool ?_
    cases k2 with
    | false => exact ite_ff ⟨.bl false, H5, I5, rfl, q5⟩
    | true => exact ite_tt (chain_last (thn (hd.run pins s5 σ H5 _ I5 q5) fun w2 s6 ⟨z6, H6, I6, r6, q6⟩ => ho'' pins s6 σ H6 z' z6 w' w2 Q I6 r4 r6 q6))
theorem pt_chain3 {op op' op'' : CmpOp} {r r' r'' : R2} (ho : OpR X (compareOp op) r) (ho' : OpR X (compareOp op') r') (ho'' : OpR X (compareOp op'') r'') (ha : PE X a ta) (hb : PE X b tb) (hc : PE X c tc) (hd : PE X d td)
    (hm : lastMarks [op, op', op''] [b, c, d] = false) : PT X (.Compare a [op, op', op''] [b, c, d] pos) (tTest (tChain3 r r' r'' ta tb tc td)) := by
  refine ⟨fun pins s σ H Q I h => ?_⟩
  refine isTrue_chain (thn (ha.run pins s σ H _ I h) fun v s1 ⟨x, H1, I1, r1, q1⟩ => test_link (thn (hb.run pins s1 σ H1 _ I1 q1) fun u s2 ⟨y, H2, I2, r2, q2⟩ =>
    thn (ho pins s2 σ H2 x y v u _ I2 r1 r2 q2) fun d s3 ⟨z, H3, I3, r3, k, e, q3⟩ => ?_)) hm
  subst e
  cases r3
  refine wpAny_truthy_bool ?_
  cases k with
  | false =>
    obtain ⟨k', e', q'⟩ := q3
    cases e'
    exact ite_ff ⟨H3, I3, q'⟩
  | true =>
    refine ite_tt (test_link (thn (hc.run pins s3 σ H3 _ I3 q3) fun w' s4 ⟨z', H4, I4, r4, q4⟩ => thn (ho' pins s4 σ H4 y z' u w' _ I4 r2 r4 q4) fun d2 s5 ⟨z2, H5, I5, r5, k2, e2, q5⟩ => ?_))
    subst e2
    cases r5
    refine wpAny_truthy_bool ?_
    cases k2 with
    | false =>
      obtain ⟨k', e', q'⟩ := q5
      cases e'
      exact ite_ff ⟨H5, I5, q'⟩
    | true =>
      refine ite_tt (test_last (thn (hd.run pins s5 σ H5 _ I5 q5) fun w2 s6 ⟨z6, H6, I6, r6, q6⟩ => thn (ho'' pins s6 σ H6 z' z6 w' w2 _ I6 r4 r6 q6) fun d3 s7 ⟨z7, H7, I7, r7, k3, e3, q7⟩ => ?_))
      subst e3
      cases r7
      exact wpAny_truthy_bool ⟨H7, I7, q7⟩
end
end L3
set_option maxRecDepth 100000
set_option maxHeartbeats 4000000
namespace L3
open PySem PySem.Spec L2
abbrev VK3 := W → G → Prop
abbrev XK3 := Nat → List (Str × W) → G → Prop
abbrev TE3 := XK3 → Sx → G → VK3 → Prop
abbrev TA3 := XK3 → Sx → G → (List W → G → Prop) → Prop
abbrev TT3 := XK3 → Sx → G → (Bool → G → Prop) → Prop
structure Ends3 where
  nx : Sx → G → Prop
  rt : VK3
  bk : Sx → G → Prop
  ct : Sx → G → Prop
  ex : Nat → List (Str × W) → Sx → G → Prop
abbrev TS3 := Ends3 → Sx → G → Prop
abbrev Ends3.xk (D : Ends3) (s : Sx) : XK3 := fun c fs g => D.ex c fs s g
structure FK (g : G) (H : Hp) (g' : G) (H' : Hp) : Prop where
  own : ∀ a u, H a = some u → g a = none → H' a = some u ∧ g' a = none
  frz : ∀ a od u, H a = some (.frz od u) → H' a = some (.frz od u)
section
variable {E : Env3} {g g' g1 g2 : G} {H H' H1 H2 : Hp} {p : Addr}
theorem FK.refl : FK g H g H := ⟨fun _ _ h n => ⟨h, n⟩, fun _ _ _ h => h⟩
theorem FK.trans (a : FK g H g1 H1) (b : FK g1 H1 g2 H2) : FK g H g2 H2 := ⟨fun c u h n => let ⟨x, y⟩ := a.own c u h n; b.own c u x y, fun c od u h => b.frz c od u (a.frz c od u h)⟩
theorem FK.new {o : GO} {u : HO} (n : H p = none) : FK g H (gup g p o) (upd H p u) := ⟨fun a v h k => by
  have z : a ≠ p := ne_of_none h n
  exact ⟨by rw [upd_ne z]; exact h, by rw [gup_ne z]; exact k⟩, fun a od v h => by rw [upd_ne (ne_of_none h n)]; exact h⟩
theorem FK.new' {u : HO} (n : H p = none) : FK g H g (upd H p u) := ⟨fun a v h k => ⟨by rw [upd_ne (ne_of_none h n)]; exact h, k⟩, fun a od v h => by rw [upd_ne (ne_of_none h n)]; exact h⟩
theorem FK.wr {o o' : GO} {u u0 : HO} (e : g p = some o) (h0 : H p = some u0) (n : ∀ od v, u0 ≠ .frz od v) : FK g H (gup g p o') (upd H p u) := ⟨fun a v h k => by
  have z : a ≠ p := fun q => by subst q; rw [e] at k; cases k
  exact ⟨by rw [upd_ne z]; exact h, by rw [gup_ne z]; exact k⟩, fun a od v h => by
  have z : a ≠ p := fun q => by subst q; rw [h0] at h; cases h; exact n _ _ rfl
  rw [upd_ne z]; exact h⟩
theorem GR.notmut (r : GR E g H) {a : Addr} {u : HO} (h : H a = some u) (m : ¬ Ow u) : g a = none := by
  cases e : g a with
  | none => rfl
  | some o =>
    obtain ⟨v, hv, k⟩ := (r a o e).some
    rw [h] at hv; cases hv; exact (m k).elim
theorem FK.tk (f : FK g H g' H') (r : GR E g H) : TK H H' :=
  ⟨fun a xs h => (f.own a _ h (r.notmut h fun z => z)).1, fun a o xs h => f.frz a o _ h⟩
end
def XR (E : Env3) (g0 : G) (H0 H : Hp) (c : Nat) (fs : List (Str × W)) (cls : Value) (d : Option Addr) : Prop :=
  cls = .ref (E.cls c) ∧ ((d = none ∧ fs = []) ∨ ∃ a l, fs ≠ [] ∧ d = some a ∧ (∀ u, H0 a = some u → g0 a ≠ none) ∧ H a = some (.xd l) ∧ fs.map (·.1) = l.map (·.1) ∧ RVs E.K H (fs.map (·.2)) (l.map (·.2)))
section
variable (E : Env3)
def KQ (g : G) (H : Hp) (q : VK3) (Q : VK) : Prop := ∀ w g' v H', GR E g' H' → RV E.K H' w v → FK g H g' H' → q w g' → Q v H'
def KB (g : G) (H : Hp) (q : Bool → G → Prop) (Q : Bool → Hp → Prop) : Prop := ∀ b g' H', GR E g' H' → FK g H g' H' → q b g' → Q b H'
def KA (g : G) (H : Hp) (q : List W → G → Prop) (Q : List V → Hp → Prop) : Prop := ∀ ws g' vs H', GR E g' H' → RVs E.K H' ws vs → FK g H g' H' → q ws g' → Q vs H'
def KX (g : G) (H : Hp) (x : XK3) (X : XK) : Prop := ∀ c fs g' cls d H', GR E g' H' → XR E g H H' c fs cls d → FK g H g' H' → x c fs g' → X cls d H'
def KN (g : G) (H : Hp) (n : Sx → G → Prop) (N : L2.St → Hp → Prop) : Prop := ∀ s' g' σ' H', SR E.K H' s' σ' → GR E g' H' → FK g H g' H' → n s' g' → N σ' H'
structure KD (g : G) (H : Hp) (d : Ends3) (D : Ends) (w : WX) : Prop where
  nx : KN E g H d.nx D.nx
  rt : KQ E g H d.rt D.rt
  bk : KN E g H d.bk D.bk
  ct : KN E g H d.ct D.ct
  ex : ∀ c fs s' g' σ' cls x H', SR E.K H' s' σ' → GR E g' H' → XR E g H H' c fs cls x → FK g H g' H' → d.ex c fs s' g' → w cls x σ' H'
def liftE (w : WX) (t : TE3) : TE := fun σ H Q => ∃ s g q x, SR E.K H s σ ∧ GR E g H ∧ t x s g q ∧ KQ E g H q Q ∧ KX E g H x (fun cls d H' => w cls d σ H')
def liftT (w : WX) (t : TT3) : TT := fun σ H Q => ∃ s g q x, SR E.K H s σ ∧ GR E g H ∧ t x s g q ∧ KB E g H q Q ∧ KX E g H x (fun cls d H' => w cls d σ H')
def liftA (w : WX) (t : TA3) : TA := fun σ H Q => ∃ s g q x, SR E.K H s σ ∧ GR E g H ∧ t x s g q ∧ KA E g H q Q ∧ KX E g H x (fun cls d H' => w cls d σ H')
def liftS (w : WX) (t : TS3) : TS := fun D σ H => ∃ s g d, SR E.K H s σ ∧ GR E g H ∧ t d s g ∧ KD E g H d D w
def lift1 (r : W → G → VK3 → Prop) : V → Hp → VK → Prop := fun v H Q => ∃ a g q, RV E.K H a v ∧ GR E g H ∧ r a g q ∧ KQ E g H q Q
def lift2 (r : W → W → G → VK3 → Prop) : R2 := fun v u H Q => ∃ a b g q, RV E.K H a v ∧ RV E.K H b u ∧ GR E g H ∧ r a b g q ∧ KQ E g H q Q
def liftL (r : List W → G → VK3 → Prop) : List V → Hp → VK → Prop := fun vs H Q => ∃ ws g q, RVs E.K H ws vs ∧ GR E g H ∧ r ws g q ∧ KQ E g H q Q
def liftM (r : W → List W → G → VK3 → Prop) : V → List V → Hp → VK → Prop := fun v vs H Q => ∃ a ws g q, RV E.K H a v ∧ RVs E.K H ws vs ∧ GR E g H ∧ r a ws g q ∧ KQ E g H q Q
end
section
variable {E : Env3} {g g1 : G} {H H1 : Hp}
theorem KQ.at {q : VK3} {Q : VK} (k : KQ E g H q Q) (f : FK g H g1 H1) : KQ E g1 H1 q Q := fun w g' v H' a b c d => k w g' v H' a b (f.trans c) d
theorem KA.at {q : List W → G → Prop} {Q : List V → Hp → Prop} (k : KA E g H q Q) (f : FK g H g1 H1) : KA E g1 H1 q Q := fun w g' v H' a b c d => k w g' v H' a b (f.trans c) d
theorem KB.at {q : Bool → G → Prop} {Q : Bool → Hp → Prop} (k : KB E g H q Q) (f : FK g H g1 H1) : KB E g1 H1 q Q := fun w g' H' a c d => k w g' H' a (f.trans c) d
theorem XR.at {H' : Hp} {c : Nat} {fs : List (Str × W)} {cls : Value} {d : Option Addr} (f : FK g H g1 H1) (h : XR E g1 H1 H' c fs cls d) : XR E g H H' c fs cls d := by
  obtain ⟨e, h⟩ := h
  refine ⟨e, h.imp id ?_⟩
  rintro ⟨a, l, k1, k2, k3, k4⟩
  refine ⟨a, l, k1, k2, fun u hu z => ?_, k4⟩
  obtain ⟨q1, q2⟩ := f.own a u hu z
  exact k3 u q1 q2
theorem KX.at {q : XK3} {Q : XK} (k : KX E g H q Q) (f : FK g H g1 H1) : KX E g1 H1 q Q := fun c fs g' cls d H' a b e h => k c fs g' cls d H' a (b.at f) (f.trans e) h
theorem KN.at {q : Sx → G → Prop} {Q : L2.St → Hp → Prop} (k : KN E g H q Q) (f : FK g H g1 H1) : KN E g1 H1 q Q := fun w g' v H' a b c d => k w g' v H' a b (f.trans c) d
theorem KD.at {d : Ends3} {D : Ends} {w : WX} (k : KD E g H d D w) (f : FK g H g1 H1) : KD E g1 H1 d D w :=
  ⟨k.nx.at f, k.rt.at f, k.bk.at f, k.ct.at f, fun c fs s' g' σ' cls x H' a b e i h => k.ex c fs s' g' σ' cls x H' a b (e.at f) (f.trans i) h⟩
theorem KD.xk {d : Ends3} {D : Ends} {w : WX} (k : KD E g H d D w) {s : Sx} {σ : L2.St} (r : SR E.K H s σ) (G0 : GR E g H) : KX E g H (d.xk s) (fun cls x H' => w cls x σ H') :=
  fun c fs g' cls x H' a b e h => k.ex c fs s g' σ cls x H' (r.keep (e.tk G0)) a b e h
end
section
variable {X : Cx} {E : Env3} {w : WX}
theorem peI {e : Expr} {t t' : TE} (h : PE X e t) (i : ∀ σ H Q, t' σ H Q → t σ H Q) : PE X e t' := ⟨fun pins s σ H Q I q => h.run pins s σ H Q I (i σ H Q q)⟩
theorem ptI {e : Expr} {t t' : TT} (h : PT X e t) (i : ∀ σ H Q, t' σ H Q → t σ H Q) : PT X e t' := ⟨fun pins s σ H Q I q => h.run pins s σ H Q I (i σ H Q q)⟩
theorem pwI {e : Expr} {t t' : TT} (h : PW X e t) (i : ∀ σ H Q, t' σ H Q → t σ H Q) : PW X e t' := ⟨fun w pins s σ H Q I q => h.run w pins s σ H Q I (i σ H Q q)⟩
theorem paI {e : List Expr} {t t' : TA} (h : PA X e t) (i : ∀ σ H Q, t' σ H Q → t σ H Q) : PA X e t' := ⟨fun p pins s σ H Q I q => h.run p pins s σ H Q I (i σ H Q q)⟩
theorem psI {e : Stmt} {t t' : TS} (h : PS X e t) (i : ∀ D σ H, t' D σ H → t D σ H) : PS X e t' := ⟨fun pins s σ H D I q => h.run pins s σ H D I (i D σ H q)⟩
theorem pssI {e : List Stmt} {t t' : TS} (h : PSs X e t) (i : ∀ D σ H, t' D σ H → t D σ H) : PSs X e t' := ⟨fun pins s σ H D I q => h.run pins s σ H D I (i D σ H q)⟩
theorem opI' {f : Value → Value → Sem Value} {r r' : R2} (h : OpR X f r) (i : ∀ x y H Q, r' x y H Q → r x y H Q) : OpR X f r' := fun pins s σ H x y v u Q I a b q => h pins s σ H x y v u Q I a b (i _ _ _ _ q)
def eVar (i : Nat) : TE3 := fun _ s g q => ∃ v, s[i]? = some (some v) ∧ q v g
def eC (v : W) : TE3 := fun _ _ g q => q v g
def e2 (r : W → W → G → VK3 → Prop) (ta tb : TE3) : TE3 := fun x s g q => ta x s g fun a g1 => tb x s g1 fun b g2 => r a b g2 q
def e1 (r : W → G → VK3 → Prop) (ta : TE3) : TE3 := fun x s g q => ta x s g fun a g1 => r a g1 q
def eL (r : List W → G → VK3 → Prop) (ta : TA3) : TE3 := fun x s g q => ta x s g fun a g1 => r a g1 q
def eM (r : W → List W → G → VK3 → Prop) (ty : W → G → Prop) (to : TE3) (ta : TA3) : TE3 := fun x s g q => to x s g fun a g1 => ty a g1 ∧ ta x s g1 fun ws g2 => r a ws g2 q
def aNil : TA3 := fun _ _ g q => q [] g
def aCons (te : TE3) (ta : TA3) : TA3 := fun x s g q => te x s g fun a g1 => ta x s g1 fun ws g2 => q (a :: ws) g2
theorem l_var (i : Nat) {σ : L2.St} {H : Hp} {Q : VK} (h : liftE E w (eVar i) σ H Q) : tVar i σ H Q := by
  obtain ⟨s, g, q, x, hs, hg, ⟨v, e, h⟩, kq, kx⟩ := h
  obtain ⟨u, e1, r⟩ := hs.get e
  exact ⟨u, e1, kq v g u H hg r FK.refl h⟩
theorem l_c {v : W} {u : V} (r : ∀ H, RV E.K H v u) {σ : L2.St} {H : Hp} {Q : VK} (h : liftE E w (eC v) σ H Q) : tC u σ H Q := by
  obtain ⟨s, g, q, x, hs, hg, h, kq, kx⟩ := h
  exact kq v g u H hg (r H) FK.refl h
theorem l_2 {r : W → W → G → VK3 → Prop} {ta tb : TE3} {σ : L2.St} {H : Hp} {Q : VK} (h : liftE E w (e2 r ta tb) σ H Q) : tOp (lift2 E r) (liftE E w ta) (liftE E w tb) σ H Q := by
  obtain ⟨s, g, q, x, hs, hg, h, kq, kx⟩ := h
  refine ⟨s, g, _, x, hs, hg, h, fun a g1 v H1 hg1 ra f1 h1 => ?_, kx⟩
  refine ⟨s, g1, _, x, hs.keep (f1.tk hg), hg1, h1, fun b g2 u H2 hg2 rb f2 h2 => ?_, kx.at f1⟩
  exact ⟨a, b, g2, q, ra.keep (f2.tk hg1), rb, hg2, h2, kq.at (f1.trans f2)⟩
theorem l_1 {r : W → G → VK3 → Prop} {ta : TE3} {σ : L2.St} {H : Hp} {Q : VK} (h : liftE E w (e1 r ta) σ H Q) : liftE E w ta σ H (fun v H1 => lift1 E r v H1 Q) := by
  obtain ⟨s, g, q, x, hs, hg, h, kq, kx⟩ := h
  exact ⟨s, g, _, x, hs, hg, h, fun a g1 v H1 hg1 ra f1 h1 => ⟨a, g1, q, ra, hg1, h1, kq.at f1⟩, kx⟩
theorem l_L {r : List W → G → VK3 → Prop} {ta : TA3} {σ : L2.St} {H : Hp} {Q : VK} (h : liftE E w (eL r ta) σ H Q) : liftA E w ta σ H (fun v H1 => liftL E r v H1 Q) := by
  obtain ⟨s, g, q, x, hs, hg, h, kq, kx⟩ := h
  exact ⟨s, g, _, x, hs, hg, h, fun a g1 v H1 hg1 ra f1 h1 => ⟨a, g1, q, ra, hg1, h1, kq.at f1⟩, kx⟩
theorem l_nil {σ : L2.St} {H : Hp} {Q : List V → Hp → Prop} (h : liftA E w aNil σ H Q) : tNil σ H Q := by
  obtain ⟨s, g, q, x, hs, hg, h, kq, kx⟩ := h
  exact kq [] g [] H hg RVs.nil FK.refl h
theorem l_cons {te : TE3} {ta : TA3} {σ : L2.St} {H : Hp} {Q : List V → Hp → Prop} (h : liftA E w (aCons te ta) σ H Q) : tCons (liftE E w te) (liftA E w ta) σ H Q := by
  obtain ⟨s, g, q, x, hs, hg, h, kq, kx⟩ := h
  refine ⟨s, g, _, x, hs, hg, h, fun a g1 v H1 hg1 ra f1 h1 => ?_, kx⟩
  refine ⟨s, g1, _, x, hs.keep (f1.tk hg), hg1, h1, fun ws g2 us H2 hg2 rb f2 h2 => ?_, kx.at f1⟩
  exact kq (a :: ws) g2 (v :: us) H2 hg2 (.cons (ra.keep (f2.tk hg1)) rb) (f1.trans f2) h2
end
end L3
set_option maxRecDepth 100000
set_option maxHeartbeats 4000000
namespace L3
open PySem PySem.Spec L2
def lstAt (g : G) (a : Addr) (k : List W → Prop) : Prop := match g a with
  | some (.lst xs) => k xs
  | _ => False
theorem lstAt_of {g : G} {a : Addr} {xs : List W} {k : List W → Prop} (h : g a = some (.lst xs)) : lstAt g a k = k xs := by simp only [lstAt, h]
theorem lstAt_inv {g : G} {a : Addr} {k : List W → Prop} (h : lstAt g a k) : ∃ xs, g a = some (.lst xs) ∧ k xs := by
  unfold lstAt at h; split at h
  · exact ⟨_, ‹_›, h⟩
  · exact h.elim
def seqAt (g : G) (x : W) (k : List W → Prop) : Prop := match x with
  | .ref a => lstAt g a k
  | .tup xs => k xs
  | .scr xs => k xs
  | .lv xs => k xs
  | _ => False
def newL (g : G) (xs : List W) (q : VK3) : Prop := ∀ p, g p = none → q (.ref p) (gup g p (.lst xs))
def addS (x y : W) (g : G) (q : VK3) : Prop := match x, y with
  | .int i, .int j => q (.int (i + j)) g
  | .str a, .str b => a.length + b.length ≤ sizeLine ∧ q (.str (a ++ b)) g
  | .tup xs, .tup ys => xs.length + ys.length ≤ sizeLine ∧ q (.tup (xs ++ ys)) g
  | .ref a, .ref b => lstAt g a fun xs => lstAt g b fun ys => xs.length + ys.length ≤ sizeLine ∧ newL g (xs ++ ys) q
  | .ref a, .lv ys => lstAt g a fun xs => xs.length + ys.length ≤ sizeLine ∧ newL g (xs ++ ys) q
  | .lv xs, .ref b => lstAt g b fun ys => xs.length + ys.length ≤ sizeLine ∧ newL g (xs ++ ys) q
  | .lv xs, .lv ys => xs.length + ys.length ≤ sizeLine ∧ newL g (xs ++ ys) q
  | _, _ => False
def i2S (c : Int → Int → Prop) (f : Int → Int → W) (x y : W) (g : G) (q : VK3) : Prop := match x, y with
  | .int i, .int j => c i j ∧ q (f i j) g
  | _, _ => False
def subS := i2S (fun _ _ => True) fun i j => .int (i - j)
def repS (z : Str) (n : Nat) : Str := ⟨(List.replicate n z.cps).foldl (· ++ ·) #[]⟩
def mulS (x y : W) (g : G) (q : VK3) : Prop := match x, y with
  | .str z, .int n => 0 ≤ n ∧ n ≤ 1000000 ∧ z.length * n.toNat ≤ 1000000 ∧ q (.str (repS z n.toNat)) g
  | .lv xs, .int n => 0 ≤ n ∧ n ≤ 1000000 ∧ xs.length * n.toNat ≤ 1000000 ∧ newL g (List.replicate n.toNat xs).flatten q
  | x, y => i2S IntMulOk (fun i j => .int (i * j)) x y g q
def fdivS := i2S (fun i j => j ≠ 0 ∧ Builtin.divisionGoesByPylong i j = false) fun i j => .int (i.fdiv j)
def modS := i2S (fun _ j => j ≠ 0) fun i j => .int (i.fmod j)
def powS := i2S (fun i j => 0 ≤ j ∧ (Builtin.Int.intBits i : Int) * j ≤ 2 ^ 27) fun i j => .int (i ^ j.toNat)
def negS (x : W) (g : G) (q : VK3) : Prop := match x with
  | .int i => q (.int (-i)) g
  | _ => False
section
variable {X : Cx} {E : Env3}
theorem rv_int {K : PySem.W.Frag} {H : Hp} {i : Int} : RV K H (.int i) (.int i) := by rw [RV]
theorem rv_bl {K : PySem.W.Frag} {H : Hp} {i : Bool} : RV K H (.bl i) (.bl i) := by rw [RV]
theorem rv_str {K : PySem.W.Frag} {H : Hp} {i : Str} : RV K H (.str i) (.str i) := by rw [RV]
theorem rv_ref {K : PySem.W.Frag} {H : Hp} {i : Addr} : RV K H (.ref i) (.ref i) := by rw [RV]
theorem rv_non {K : PySem.W.Frag} {H : Hp} : RV K H .non .non := by rw [RV]
theorem rv_tup {K : PySem.W.Frag} {H : Hp} {xs : List W} {p : Addr} {ys : List V} (h : H p = some (.tup ys)) (r : RVs K H xs ys) : RV K H (.tup xs) (.ref p) := by rw [RV]; exact ⟨p, ys, rfl, h, r⟩
theorem rv_tup_inv {K : PySem.W.Frag} {H : Hp} {xs : List W} {v : V} (h : RV K H (.tup xs) v) : ∃ p ys, v = .ref p ∧ H p = some (.tup ys) ∧ RVs K H xs ys := by rw [RV] at h; exact h
theorem rv_lv_fr {K : PySem.W.Frag} {H : Hp} {xs : List W} {v : V} (h : RV K H (.lv xs) v) : ∃ p ys, v = .ref p ∧ (∃ o, H p = some (.frz o (.lst ys))) ∧ RVs K H xs ys := by rw [RV] at h; exact h
theorem rv_lv_inv {K : PySem.W.Frag} {H : Hp} {xs : List W} {v : V} (h : RV K H (.lv xs) v) : ∃ p ys, v = .ref p ∧ FrL K H p ys ∧ RVs K H xs ys := by
  obtain ⟨p, ys, e, o, r⟩ := rv_lv_fr h
  exact ⟨p, ys, e, .inl o, r⟩
theorem rv_scr_inv {K : PySem.W.Frag} {H : Hp} {xs : List W} {v : V} (h : RV K H (.scr xs) v) : ∃ p ys, v = .ref p ∧ FrL K H p ys ∧ RVs K H xs ys := by rw [RV] at h; exact h
theorem new_tup {g : G} {H : Hp} {q : VK3} {Q : VK} {xs : List W} {ys : List V} {p : Addr} (hg : GR E g H) (n : H p = none) (r : RVs E.K H xs ys) (h : q (.tup xs) g) (kq : KQ E g H q Q) : Q (.ref p) (upd H p (.tup ys)) :=
  kq _ g _ _ (hg.new' n) (rv_tup upd_same (r.keep (TK.new n))) (FK.new' n) h
theorem new_lst {g : G} {H : Hp} {q : VK3} {Q : VK} {xs : List W} {ys : List V} {p : Addr} (hg : GR E g H) (n : H p = none) (r : RVs E.K H xs ys) (h : newL g xs q) (kq : KQ E g H q Q) : Q (.ref p) (upd H p (.lst ys)) :=
  kq _ _ _ _ (hg.new (o := .lst xs) n ⟨ys, upd_same, r.keep (TK.new n)⟩) rv_ref (FK.new n) (h p (hg.free n))
theorem rd_lstM {pins : List (Addr × Obj)} {σ : L2.St} {H : Hp} {s : Shared} {l : Addr} {xs : List V} (I : Inv X pins σ H s) (h : Rd H l (.lst xs)) : xs.length ≤ sizeLine ∧ ∃ (its : List Value) (n : Nat), Vals xs its ∧ xs.length = its.length ∧ s.heap.get? l = some { cls := .type "list", data := .seq its.toArray n } := by
  obtain ⟨z, its, n, r, e⟩ := h.ok I.hok
  exact ⟨z, its, n, r, r.length, e⟩
theorem op_catR : OpR X (binaryOp .Add) (fun x y H Q => ∃ l b xs zs, x = .ref l ∧ y = .ref b ∧ Rd H l (.lst xs) ∧ Rd H b (.lst zs) ∧ xs.length + zs.length ≤ sizeLine ∧ ∀ p, H p = none → Q (.ref p) (upd H p (.lst (xs ++ zs)))) := by
  intro pins s σ H x y v u Q I rx ry h
  obtain ⟨l, b, xs, zs, rfl, rfl, hH, hB, hz, q⟩ := h
  cases rx
  cases ry
  obtain ⟨z, its, n, r, hl, e⟩ := rd_lstM I hH
  obtain ⟨z2, its2, n2, r2, hl2, e2⟩ := rd_lstM I hB
  refine PySem.P.add_list e e2 ?_ (by rw [List.size_toArray, List.size_toArray]; omega)
  have ea : its.toArray ++ its2.toArray = (its ++ its2).toArray := by simp
  rw [ea]
  exact ⟨.ref _, _, I.lnew (t' := s.toks) (r.append r2) (by rw [List.length_append]; omega), rfl, q _ I.fresh⟩
theorem l_add (hK : X.K = E.K) : OpR X (binaryOp .Add) (lift2 E addS) := by
  intro pins s σ H x y v u Q I rx ry ⟨a, b, g, q, ha, hb, hg, h, kq⟩
  cases a with
  | int i =>
    cases b with
    | int j =>
      rw [RV] at ha hb; subst ha hb
      exact op_add pins s σ H _ _ v u Q I rx ry ⟨i, j, rfl, rfl, kq _ g _ H hg rv_int FK.refl h⟩
    | _ => exact h.elim
  | str i =>
    cases b with
    | str j =>
      rw [RV] at ha hb; subst ha hb
      exact op_add_str pins s σ H _ _ v u Q I rx ry ⟨i, j, rfl, rfl, h.1, kq _ g _ H hg rv_str FK.refl h.2⟩
    | _ => exact h.elim
  | tup xs =>
    cases b with
    | tup zs =>
      obtain ⟨p, ys, rfl, hs, hr⟩ := rv_tup_inv ha
      obtain ⟨p', ys', rfl, hs', hr'⟩ := rv_tup_inv hb
      refine op_catA pins s σ H _ _ v u Q I rx ry ⟨p, p', ys, ys', rfl, rfl, SqT.of hs, SqT.of hs', by rw [hr.length, hr'.length]; exact h.1, fun e => ?_, fun e1 e2 => ?_, fun _ _ t nt => ?_⟩
      · subst e
        have e0 : xs = [] := by have := hr.length; simp at this; exact List.length_eq_zero_iff.mp this.symm
        subst e0
        exact kq _ g _ H hg hb FK.refl h.2
      · subst e2
        have e0 : zs = [] := by have := hr'.length; simp at this; exact List.length_eq_zero_iff.mp this.symm
        subst e0
        exact kq _ g _ H hg (by simpa using ha) FK.refl h.2
      · exact new_tup hg nt (hr.append hr') h.2 kq
    | _ => exact h.elim
  | ref l =>
    cases b with
    | ref m =>
      rw [RV] at ha hb; subst ha hb
      obtain ⟨xs, e1, h⟩ := lstAt_inv h
      obtain ⟨zs, e2, h⟩ := lstAt_inv h
      obtain ⟨ys, f1, r1⟩ := hg _ _ e1
      obtain ⟨us, f2, r2⟩ := hg _ _ e2
      exact op_cat pins s σ H _ _ v u Q I rx ry ⟨l, m, ys, us, rfl, rfl, f1, f2, by rw [r1.length, r2.length]; exact h.1, fun p np => new_lst hg np (r1.append r2) h.2 kq⟩
    | lv zs =>
      rw [RV] at ha; subst ha
      obtain ⟨xs, e1, h⟩ := lstAt_inv h
      obtain ⟨ys, f1, r1⟩ := hg _ _ e1
      obtain ⟨p, us, rfl, ⟨o, f2⟩, r2⟩ := rv_lv_fr hb
      exact op_catR pins s σ H _ _ v u Q I rx ry ⟨l, p, ys, us, rfl, rfl, .inl f1, .inr ⟨o, f2⟩, by rw [r1.length, r2.length]; exact h.1, fun p np => new_lst hg np (r1.append r2) h.2 kq⟩
    | _ => exact h.elim
  | lv xs =>
    obtain ⟨l, ys, rfl, ⟨o, f1⟩, r1⟩ := rv_lv_fr ha
    cases b with
    | ref m =>
      rw [RV] at hb; subst hb
      obtain ⟨zs, e2, h⟩ := lstAt_inv h
      obtain ⟨us, f2, r2⟩ := hg _ _ e2
      exact op_catR pins s σ H _ _ v u Q I rx ry ⟨l, m, ys, us, rfl, rfl, .inr ⟨o, f1⟩, .inl f2, by rw [r1.length, r2.length]; exact h.1, fun p np => new_lst hg np (r1.append r2) h.2 kq⟩
    | lv zs =>
      obtain ⟨p, us, rfl, ⟨o2, f2⟩, r2⟩ := rv_lv_fr hb
      exact op_catR pins s σ H _ _ v u Q I rx ry ⟨l, p, ys, us, rfl, rfl, .inr ⟨o, f1⟩, .inr ⟨o2, f2⟩, by rw [r1.length, r2.length]; exact h.1, fun p np => new_lst hg np (r1.append r2) h.2 kq⟩
    | _ => exact h.elim
  | _ => exact h.elim
theorem l_i2 {f : Value → Value → Sem Value} {c : Int → Int → Prop} {k : Int → Int → Int} (h0 : OpR X f (rI c fun i j => .int (k i j))) : OpR X f (lift2 E (i2S c fun i j => .int (k i j))) := by
  intro pins s σ H x y v u Q I rx ry ⟨a, b, g, q, ha, hb, hg, h, kq⟩
  cases a with
  | int i =>
    cases b with
    | int j =>
      rw [RV] at ha hb; subst ha hb
      exact h0 pins s σ H _ _ v u Q I rx ry ⟨i, j, rfl, rfl, h.1, kq _ g _ H hg rv_int FK.refl h.2⟩
    | _ => exact h.elim
  | _ => exact h.elim
theorem l_sub : OpR X (binaryOp .Sub) (lift2 E subS) := l_i2 (opI' op_sub fun x y H Q ⟨i, j, a, b, _, d⟩ => ⟨i, j, a, b, d⟩)
theorem repS_0 {z : Str} : repS z 0 = Str.empty := rfl
theorem repS_1 {z : Str} : repS z 1 = z := by
  cases z
  simp [repS]
theorem repS_e {z : Str} (h : z.length = 0) (n : Nat) : repS z n = Str.empty := by
  have e : z.cps = #[] := Array.eq_empty_of_size_eq_zero h
  unfold repS
  rw [e]
  congr 1
  induction n with
  | zero => rfl
  | succ n ih =>
    rw [List.replicate_succ]
    simpa using ih
theorem rep_size {α : Type} (a : Array α) : ∀ (n : Nat) (acc : Array α), ((List.replicate n a).foldl (· ++ ·) acc).size = acc.size + n * a.size
  | 0, acc => by simp
  | n + 1, acc => by
    rw [List.replicate_succ, List.foldl_cons, rep_size a n, Array.size_append, Nat.succ_mul]; omega
theorem repS_len {z : Str} {n : Nat} : (repS z n).length = n * z.length := by
  show ((List.replicate n z.cps).foldl (· ++ ·) #[]).size = _
  rw [rep_size]
  simp
  rfl
theorem op_mul_text {x y : V} {pins : List (Addr × Obj)} {σ : L2.St} {H : Hp} {s : Shared} {v u : Value} {Q : VK} {z : Str} {n : Int} (I : L2.Inv X pins σ H s) (rx : RelV (.str z) v) (ry : RelV (.int n) u) (h0 : 0 ≤ n) (h1 : n ≤ 1000000) (h2 : z.length * n.toNat ≤ 1000000) (h : Q (.str (repS z n.toNat)) H) :
    wpAny (model X.prog X.w) X.A (binaryOp .Mult v u) (EP X pins σ Q) X.xe s := by
  obtain ⟨t, rfl⟩ := rx
  obtain ⟨t2, rfl⟩ := ry
  have p63 : (2 : Int) ^ 63 = 9223372036854775808 := by decide
  refine PySem.P.mul_str (by rw [p63, decide_eq_false (by omega), decide_eq_false (by omega)]; rfl) (fun n1 n2 => ?_) (fun n1 n2 => ?_) ?_
  · have hz : z.length ≤ 1000000 := by
      have : 1 ≤ n.toNat := by omega
      exact Nat.le_trans (Nat.le_mul_of_pos_right _ this) h2
    rw [p63]
    have : (1000000 : Int) ≤ (9223372036854775808 - 1) / n := by
      rw [Int.le_ediv_iff_mul_le (by omega)]
      have := Int.mul_le_mul_of_nonneg_left h1 (show (0 : Int) ≤ 1000000 by decide)
      omega
    omega
  · unfold Builtin.Str.tooLong
    exact decide_eq_false (by
      have : sizeLine = 16777216 := by decide
      omega)
  · by_cases c : n < 1
    · rw [if_pos c]
      have e : n.toNat = 0 := by omega
      rw [e, repS_0] at h
      exact ⟨by decide, ⟨.str _, H, I.tok _, ⟨_, rfl⟩, h⟩⟩
    · rw [if_neg c]
      by_cases c2 : (n == 1 || z.length == 0) = true
      · rw [if_pos c2]
        rcases Bool.or_eq_true _ _ ▸ c2 with c3 | c3
        · have e : n = 1 := by simpa using c3
          subst e
          rw [show (1 : Int).toNat = 1 from rfl, repS_1] at h
          exact ⟨.str z, H, I, ⟨t, rfl⟩, h⟩
        · have e : z.length = 0 := by simpa using c3
          rw [repS_e e] at h
          have ez : z = Str.empty := by
            cases z
            have e2 := Array.eq_empty_of_size_eq_zero (show _ = 0 from e)
            subst e2; rfl
          subst ez
          exact ⟨.str _, H, I, ⟨t, rfl⟩, h⟩
      · rw [if_neg c2]
        refine ⟨?_, ⟨.str _, H, I.tok _, ⟨_, rfl⟩, h⟩⟩
        have e := repS_len (z := z) (n := n.toNat)
        unfold repS at e
        rw [e, Nat.mul_comm]
        have : sizeLine = 16777216 := by decide
        omega
theorem vals_rep {xs : List V} {its : List Value} (r : Vals xs its) : ∀ n : Nat, Vals (List.replicate n xs).flatten (List.replicate n its).flatten
  | 0 => .nil
  | n + 1 => by rw [List.replicate_succ, List.replicate_succ, List.flatten_cons, List.flatten_cons]; exact r.append (vals_rep r n)
theorem rvs_rep {K : PySem.W.Frag} {H : Hp} {xs : List W} {ys : List V} (r : RVs K H xs ys) : ∀ n : Nat, RVs K H (List.replicate n xs).flatten (List.replicate n ys).flatten
  | 0 => .nil
  | n + 1 => by rw [List.replicate_succ, List.replicate_succ, List.flatten_cons, List.flatten_cons]; exact r.append (rvs_rep r n)
theorem rep_len {α : Type} (ns : List α) (k : Nat) : (List.replicate k ns).flatten.length = ns.length * k := by
  induction k with
  | zero => rfl
  | succ k ih =>
    rw [List.replicate_succ, List.flatten_cons, List.length_append, ih, Nat.mul_succ]
    omega
theorem op_mul_list {pins : List (Addr × Obj)} {σ : L2.St} {H : Hp} {s : Shared} {l : Addr} {xs : List V} {v u : Value} {Q : VK} {n : Int} (I : L2.Inv X pins σ H s) (rx : RelV (.ref l) v) (ry : RelV (.int n) u) (hH : Rd H l (.lst xs)) (h0 : 0 ≤ n) (h1 : n ≤ 1000000) (h2 : xs.length * n.toNat ≤ 1000000)
    (h : ∀ p, H p = none → Q (.ref p) (upd H p (.lst (List.replicate n.toNat xs).flatten))) :
    wpAny (model X.prog X.w) X.A (binaryOp .Mult v u) (EP X pins σ Q) X.xe s := by
  cases rx
  obtain ⟨t2, rfl⟩ := ry
  obtain ⟨z, its, k, r, hl, e⟩ := rd_lstM I hH
  have hsz : its.toArray.size * n.toNat ≤ 1000000 := by rw [List.size_toArray, ← hl]; exact h2
  have hL : sizeLine = 16777216 := by decide
  refine wpAny_binaryOp_repeat_ref (T := "list") (U := "int") (by decide) ⟨_, e, rfl⟩ (fun s' => typeIs_int s' n t2) noFill_list_mul F.fills_int_mul F.slot_int_rmul repeat_list F.slot_int_index.lookup
    (call_meets F.slot_int_rmul (typeIs_int s n t2) F.entry_int_rmul (F.args_int_rmul_2 _ _) (lm_int_rmul_list_any n t2 l its.toArray k none #[])
      ⟨e, rfl, ⟨_, e, rfl⟩, call_meets F.slot_list_mul ⟨_, e, rfl⟩ F.entry_list_mul (F.args_list_mul_2 _ _)
        (lm_list_mul_any l its.toArray k none #[] n t2 (by simp [Builtin.List.listFitsIndex]; omega) (by omega) (by rw [List.size_toArray] at hsz; simp [Builtin.List.listTooLong, sizeLine]; omega))
        ⟨e, ?_⟩⟩)
  rw [PyProof.Rows.listMul_foldl_if]
  exact ⟨.ref _, _, I.lnew (t' := s.toks) (vals_rep r n.toNat) (by rw [rep_len]; omega), rfl, h _ I.fresh⟩
theorem l_mul : OpR X (binaryOp .Mult) (lift2 E mulS) := by
  have h1 : OpR X (binaryOp .Mult) (lift2 E (i2S IntMulOk fun i j => .int (i * j))) := l_i2 (opI fun _ _ _ _ _ _ _ hc q => PyProof.Rows.mul_int q hc)
  intro pins s σ H x y v u Q I rx ry ⟨a, b, g, q, ha, hb, hg, h, kq⟩
  cases a with
  | str z =>
    cases b with
    | int n =>
      simp only [RV] at ha hb; subst ha hb
      exact op_mul_text (x := .non) (y := .non) I rx ry h.1 h.2.1 h.2.2.1 (kq _ g _ H hg rv_str FK.refl h.2.2.2)
    | _ => exact h1 pins s σ H x y v u Q I rx ry ⟨_, _, g, q, ha, hb, hg, h, kq⟩
  | lv xs =>
    cases b with
    | int n =>
      obtain ⟨l, ys, rfl, ⟨o, f1⟩, r1⟩ := rv_lv_fr ha
      simp only [RV] at hb; subst hb
      exact op_mul_list I rx ry (.inr ⟨o, f1⟩) h.1 h.2.1 (by rw [r1.length]; exact h.2.2.1) fun p np => new_lst hg np (rvs_rep r1 n.toNat) h.2.2.2 kq
    | _ => exact h1 pins s σ H x y v u Q I rx ry ⟨_, _, g, q, ha, hb, hg, h, kq⟩
  | _ => exact h1 pins s σ H x y v u Q I rx ry ⟨_, _, g, q, ha, hb, hg, h, kq⟩
theorem l_fdiv : OpR X (binaryOp .FloorDiv) (lift2 E fdivS) := l_i2 (opI fun _ _ _ _ _ _ _ hc q => PyProof.Rows.floordiv_int hc.1 q (.inl hc.2))
theorem l_mod : OpR X (binaryOp .Mod) (lift2 E modS) := l_i2 op_modN
theorem l_pow : OpR X (binaryOp .Pow) (lift2 E powS) := l_i2 (opI fun _ _ _ _ _ _ _ hc q => PyProof.Rows.pow_int hc.1 hc.2 q)
theorem l_neg : UnR X (unaryOp .USub) (lift1 E negS) := by
  intro pins s σ H x v Q I rx ⟨a, g, q, ha, hg, h, kq⟩
  cases a with
  | int i => rw [RV] at ha; subst ha; exact un_neg pins s σ H _ v Q I rx ⟨i, rfl, kq _ g _ H hg rv_int FK.refl h⟩
  | _ => exact h.elim
inductive DW (g : G) : W → PyData → Prop
  | non : DW g .non .none
  | bl (b : Bool) : DW g (.bl b) (.bool b)
  | int (i : Int) : DW g (.int i) (.int i)
  | str (x : Str) : DW g (.str x) (.str x)
  | lst {a : Addr} {xs : List W} {ds : List PyData} (h : g a = some (.lst xs)) (n : xs.length = ds.length) (k : ∀ (i : Nat) (x : W) (d : PyData), xs[i]? = some x → ds[i]? = some d → DW g x d) : DW g (.ref a) (.list ds)
  | tup {xs : List W} {ds : List PyData} (n : xs.length = ds.length) (k : ∀ (i : Nat) (x : W) (d : PyData), xs[i]? = some x → ds[i]? = some d → DW g x d) : DW g (.tup xs) (.tuple ds)
  | scr {xs : List W} {ds : List PyData} (n : xs.length = ds.length) (k : ∀ (i : Nat) (x : W) (d : PyData), xs[i]? = some x → ds[i]? = some d → DW g x d) : DW g (.scr xs) (.list ds)
  | lv {xs : List W} {ds : List PyData} (n : xs.length = ds.length) (k : ∀ (i : Nat) (x : W) (d : PyData), xs[i]? = some x → ds[i]? = some d → DW g x d) : DW g (.lv xs) (.list ds)
theorem dpAll_of {K : PySem.W.Frag} {H : Hp} : ∀ {xs : List W} {vs : List V} {ds : List PyData}, RVs K H xs vs → xs.length = ds.length →
    (∀ (i : Nat) (x : W) (d : PyData), xs[i]? = some x → ds[i]? = some d → ∀ v, RV K H x v → Dp K H v d) → DpAll K H vs ds
  | [], _, [], h, _, _ => by rw [h.nil_inv]; exact .nil
  | [], _, _ :: _, _, n, _ => by simp at n
  | _ :: _, _, [], _, n, _ => by simp at n
  | x :: xs, _, d :: ds, h, n, k => by
    obtain ⟨v, r, rfl, h1, h2⟩ := h.cons_inv
    exact .cons (k 0 x d rfl rfl v h1) (dpAll_of h2 (by simpa using n) fun i x' d' e1 e2 => k (i + 1) x' d' (by simpa using e1) (by simpa using e2))
theorem dp_of {g : G} {H : Hp} (hg : GR E g H) : ∀ {w : W} {d : PyData}, DW g w d → ∀ {v : V}, RV E.K H w v → Dp E.K H v d := by
  intro w d h
  induction h with
  | non => intro v r; rw [RV] at r; subst r; exact .non
  | bl b => intro v r; rw [RV] at r; subst r; exact .bl b
  | int b => intro v r; rw [RV] at r; subst r; exact .int b
  | str b => intro v r; rw [RV] at r; subst r; exact .str b
  | lst h n k ih =>
    intro v r; rw [RV] at r; subst r
    obtain ⟨ys, f1, r1⟩ := hg _ _ h
    exact .lst (SqL.of f1) (dpAll_of r1 n fun i x d e1 e2 v r => ih i x d e1 e2 r)
  | tup n k ih =>
    intro v r
    obtain ⟨p, ys, rfl, hs, hr⟩ := rv_tup_inv r
    exact .tup (SqT.of hs) (dpAll_of hr n fun i x d e1 e2 v r => ih i x d e1 e2 r)
  | scr n k ih =>
    intro v r
    obtain ⟨p, ys, rfl, hs, hr⟩ := rv_scr_inv r
    exact .lst hs.sq (dpAll_of hr n fun i x d e1 e2 v r => ih i x d e1 e2 r)
  | lv n k ih =>
    intro v r
    obtain ⟨p, ys, rfl, hs, hr⟩ := rv_lv_inv r
    exact .lst hs.sq (dpAll_of hr n fun i x d e1 e2 v r => ih i x d e1 e2 r)
def eqS (neg : Bool) (x y : W) (g : G) (q : VK3) : Prop := match x, y with
  | .int i, .int j => q (.bl (xor neg (decide (i = j)))) g
  | .str i, .str j => q (.bl (xor neg (decide (i = j)))) g
  | .bl i, .bl j => q (.bl (xor neg (decide (i = j)))) g
  | x, y => ∃ d e, DW g x d ∧ DW g y e ∧ d.plain = true ∧ e.plain = true ∧ d.depth ≤ 64 ∧ q (.bl (xor neg (PyData.eqv d e))) g
theorem eqS_data {neg : Bool} {x y : W} {g : G} {q : VK3} (h : eqS neg x y g q) : (∃ i j, x = .int i ∧ y = .int j ∧ q (.bl (xor neg (decide (i = j)))) g) ∨ (∃ i j, x = .str i ∧ y = .str j ∧ q (.bl (xor neg (decide (i = j)))) g) ∨
    (∃ i j, x = .bl i ∧ y = .bl j ∧ q (.bl (xor neg (decide (i = j)))) g) ∨ ∃ d e, DW g x d ∧ DW g y e ∧ d.plain = true ∧ e.plain = true ∧ d.depth ≤ 64 ∧ q (.bl (xor neg (PyData.eqv d e))) g := by
  unfold eqS at h
  split at h
  · exact .inl ⟨_, _, rfl, rfl, h⟩
  · exact .inr (.inl ⟨_, _, rfl, rfl, h⟩)
  · exact .inr (.inr (.inl ⟨_, _, rfl, rfl, h⟩))
  · exact .inr (.inr (.inr h))
theorem plain_room {A : Around} {d e : PyData} (hu : A.units + 64 < cLine) (h : d.depth ≤ 64) : A.units + min d.depth e.depth < cLine := by have := Nat.min_le_left d.depth e.depth; omega
theorem dec_vi {i j : Int} : decide (V.int i = V.int j) = decide (i = j) := by simp
theorem dec_vs {i j : Str} : decide (V.str i = V.str j) = decide (i = j) := by simp
theorem dec_vb {i j : Bool} : decide (V.bl i = V.bl j) = decide (i = j) := by simp
theorem l_eq (hK : X.K = E.K) (hu : X.A.units + 64 < cLine) : OpR X (compareOp .Eq) (lift2 E (eqS false)) := by
  intro pins s σ H x y v u Q I rx ry ⟨a, b, g, q, ha, hb, hg, h, kq⟩
  rcases eqS_data h with ⟨i, j, rfl, rfl, h2⟩ | ⟨i, j, rfl, rfl, h2⟩ | ⟨i, j, rfl, rfl, h2⟩ | ⟨d, e, d1, d2, s1, s2, h3, h2⟩
  · rw [RV] at ha hb; subst ha hb
    exact op_eq pins s σ H _ _ v u Q I rx ry ⟨rfl, kq _ g _ H hg rv_bl FK.refl (by simpa [dec_vi] using h2)⟩
  · rw [RV] at ha hb; subst ha hb
    exact op_eq pins s σ H _ _ v u Q I rx ry ⟨rfl, kq _ g _ H hg rv_bl FK.refl (by simpa [dec_vs] using h2)⟩
  · rw [RV] at ha hb; subst ha hb
    exact op_eq pins s σ H _ _ v u Q I rx ry ⟨rfl, kq _ g _ H hg rv_bl FK.refl (by simpa [dec_vb] using h2)⟩
  · obtain ⟨as, r1⟩ := Dp.reads I d _ v (by rw [hK]; exact dp_of hg d1 ha) rx
    obtain ⟨bs, r2⟩ := Dp.reads I e _ u (by rw [hK]; exact dp_of hg d2 hb) ry
    exact PySem.SeqAt.eq_plain r1 r2 s1 s2 (plain_room hu h3) ⟨.bl _, H, I, rfl, kq _ g _ H hg rv_bl FK.refl (by simpa using h2)⟩
theorem l_ne (hK : X.K = E.K) (hu : X.A.units + 64 < cLine) : OpR X (compareOp .NotEq) (lift2 E (eqS true)) := by
  intro pins s σ H x y v u Q I rx ry ⟨a, b, g, q, ha, hb, hg, h, kq⟩
  rcases eqS_data h with ⟨i, j, rfl, rfl, h2⟩ | ⟨i, j, rfl, rfl, h2⟩ | ⟨i, j, rfl, rfl, h2⟩ | ⟨d, e, d1, d2, s1, s2, h3, h2⟩
  · rw [RV] at ha hb; subst ha hb
    exact op_ne pins s σ H _ _ v u Q I rx ry ⟨rfl, kq _ g _ H hg rv_bl FK.refl (by simpa [dec_vi] using h2)⟩
  · rw [RV] at ha hb; subst ha hb
    exact op_ne pins s σ H _ _ v u Q I rx ry ⟨rfl, kq _ g _ H hg rv_bl FK.refl (by simpa [dec_vs] using h2)⟩
  · rw [RV] at ha hb; subst ha hb
    exact op_ne pins s σ H _ _ v u Q I rx ry ⟨rfl, kq _ g _ H hg rv_bl FK.refl (by simpa [dec_vb] using h2)⟩
  · obtain ⟨as, r1⟩ := Dp.reads I d _ v (by rw [hK]; exact dp_of hg d1 ha) rx
    obtain ⟨bs, r2⟩ := Dp.reads I e _ u (by rw [hK]; exact dp_of hg d2 hb) ry
    exact PySem.SeqAt.ne_plain r1 r2 s1 s2 (plain_room hu h3) ⟨.bl _, H, I, rfl, kq _ g _ H hg rv_bl FK.refl (by simpa using h2)⟩
def ordS (fi : Int → Int → Bool) (fs : Str → Str → Bool) (fd : PyData → PyData → Bool) (x y : W) (g : G) (q : VK3) : Prop := match x, y with
  | .int i, .int j => q (.bl (fi i j)) g
  | .str i, .str j => q (.bl (fs i j)) g
  | x, y => ∃ d e, DW g x d ∧ DW g y e ∧ PySem.W.alike d e = true ∧ d ≠ .none ∧ d.depth ≤ 64 ∧ q (.bl (fd d e)) g
theorem l_ord {op : CmpOp} {fi : Int → Int → Bool} {fs : Str → Str → Bool} {fd : PyData → PyData → Bool} (hK : X.K = E.K) (h1 : OpR X (compareOp op) (rI0 fun i j => .bl (fi i j)))
    (h2 : OpR X (compareOp op) (fun x y H Q => ∃ i j, x = .str i ∧ y = .str j ∧ Q (.bl (fs i j)) H))
    (h3 : OpR X (compareOp op) (fun x y H Q => ∃ d e, Dp X.K H x d ∧ Dp X.K H y e ∧ PySem.W.alike d e = true ∧ d ≠ .none ∧ d.depth ≤ 64 ∧ Q (.bl (fd d e)) H)) : OpR X (compareOp op) (lift2 E (ordS fi fs fd)) := by
  intro pins s σ H x y v u Q I rx ry ⟨a, b, g, q, ha, hb, hg, h, kq⟩
  unfold ordS at h
  split at h
  · rw [RV] at ha hb; subst ha hb; exact h1 pins s σ H _ _ v u Q I rx ry ⟨_, _, rfl, rfl, kq _ g _ H hg rv_bl FK.refl h⟩
  · rw [RV] at ha hb; subst ha hb; exact h2 pins s σ H _ _ v u Q I rx ry ⟨_, _, rfl, rfl, kq _ g _ H hg rv_bl FK.refl h⟩
  · obtain ⟨d, e, d1, d2, k1, k2, k3, h⟩ := h
    exact h3 pins s σ H _ _ v u Q I rx ry ⟨d, e, by rw [hK]; exact dp_of hg d1 ha, by rw [hK]; exact dp_of hg d2 hb, k1, k2, k3, kq _ g _ H hg rv_bl FK.refl h⟩
def ltS := ordS (fun i j => decide (i < j)) (fun i j => decide (i.cps.toList < j.cps.toList)) fun d e => PySem.W.dataLt d e
def leS := ordS (fun i j => decide (i ≤ j)) (fun i j => !decide (j.cps.toList < i.cps.toList)) fun d e => !PySem.W.dataLt e d
def gtS := ordS (fun i j => decide (j < i)) (fun i j => decide (j.cps.toList < i.cps.toList)) fun d e => PySem.W.dataLt e d
def geS := ordS (fun i j => decide (j ≤ i)) (fun i j => !decide (i.cps.toList < j.cps.toList)) fun d e => !PySem.W.dataLt d e
theorem l_lt (hK : X.K = E.K) (hu : X.A.units + 64 < cLine) : OpR X (compareOp .Lt) (lift2 E ltS) := l_ord hK op_lt op_lt_str fun pins s σ H x y v u Q I rx ry ⟨d, e, a, b, k1, k2, k3, h⟩ => by
  obtain ⟨as, r1⟩ := Dp.reads I d _ v a rx; obtain ⟨bs, r2⟩ := Dp.reads I e _ u b ry
  exact PySem.W.lt_data r1 r2 k1 k2 (plain_room hu k3) ⟨.bl _, H, I, rfl, h⟩
theorem l_le (hK : X.K = E.K) (hu : X.A.units + 64 < cLine) : OpR X (compareOp .LtE) (lift2 E leS) := l_ord hK op_le op_le_str fun pins s σ H x y v u Q I rx ry ⟨d, e, a, b, k1, k2, k3, h⟩ => by
  obtain ⟨as, r1⟩ := Dp.reads I d _ v a rx; obtain ⟨bs, r2⟩ := Dp.reads I e _ u b ry
  exact PySem.W.le_data r1 r2 k1 k2 (plain_room hu k3) ⟨.bl _, H, I, rfl, h⟩
theorem l_gt (hK : X.K = E.K) (hu : X.A.units + 64 < cLine) : OpR X (compareOp .Gt) (lift2 E gtS) := l_ord hK op_gt op_gt_str fun pins s σ H x y v u Q I rx ry ⟨d, e, a, b, k1, k2, k3, h⟩ => by
  obtain ⟨as, r1⟩ := Dp.reads I d _ v a rx; obtain ⟨bs, r2⟩ := Dp.reads I e _ u b ry
  exact PySem.W.gt_data r1 r2 k1 k2 (plain_room hu k3) ⟨.bl _, H, I, rfl, h⟩
theorem l_ge (hK : X.K = E.K) (hu : X.A.units + 64 < cLine) : OpR X (compareOp .GtE) (lift2 E geS) := l_ord hK op_ge op_ge_str fun pins s σ H x y v u Q I rx ry ⟨d, e, a, b, k1, k2, k3, h⟩ => by
  obtain ⟨as, r1⟩ := Dp.reads I d _ v a rx; obtain ⟨bs, r2⟩ := Dp.reads I e _ u b ry
  exact PySem.W.ge_data r1 r2 k1 k2 (plain_room hu k3) ⟨.bl _, H, I, rfl, h⟩
def isS (neg : Bool) (x y : W) (g : G) (q : VK3) : Prop := match x, y with
  | .non, .non => q (.bl (!neg)) g
  | _, .non => q (.bl neg) g
  | .bl a, .bl b => q (.bl (xor neg (decide (a = b)))) g
  | _, _ => False
theorem isS_non {neg : Bool} {x : W} {g : G} {q : VK3} {H : Hp} {v : V} (r : RV E.K H x v) (h : isS neg x .non g q) : q (.bl (xor neg (decide (v = .non)))) g := by
  cases x with
  | non => rw [RV] at r; subst r; simpa [isS] using h
  | tup xs => obtain ⟨p, ys, rfl, _⟩ := rv_tup_inv r; simpa [isS] using h
  | scr xs => obtain ⟨p, ys, rfl, _⟩ := rv_scr_inv r; simpa [isS] using h
  | lv xs => obtain ⟨p, ys, rfl, _⟩ := rv_lv_inv r; simpa [isS] using h
  | _ => rw [RV] at r; subst r; simpa [isS] using h
theorem l_is : OpR X (compareOp .Is) (lift2 E (isS false)) := by
  intro pins s σ H x y v u Q I rx ry ⟨a, b, g, q, ha, hb, hg, h, kq⟩
  cases b with
  | non =>
    have h' := isS_non ha h
    rw [RV] at hb; subst hb
    exact op_isN pins s σ H _ _ v u Q I rx ry ⟨rfl, kq _ g _ H hg rv_bl FK.refl (by simpa using h')⟩
  | bl j =>
    cases a with
    | bl i => rw [RV] at ha hb; subst ha hb; exact op_is_bl pins s σ H _ _ v u Q I rx ry ⟨i, j, rfl, rfl, kq _ g _ H hg rv_bl FK.refl (by simpa [isS] using h)⟩
    | _ => exact h.elim
  | _ => cases a <;> exact h.elim
theorem l_isnot : OpR X (compareOp .IsNot) (lift2 E (isS true)) := by
  intro pins s σ H x y v u Q I rx ry ⟨a, b, g, q, ha, hb, hg, h, kq⟩
  cases b with
  | non =>
    have h' := isS_non ha h
    rw [RV] at hb; subst hb
    exact op_notN pins s σ H _ _ v u Q I rx ry ⟨rfl, kq _ g _ H hg rv_bl FK.refl (by simpa using h')⟩
  | bl j =>
    cases a with
    | bl i => rw [RV] at ha hb; subst ha hb; exact op_isnot_bl pins s σ H _ _ v u Q I rx ry ⟨i, j, rfl, rfl, kq _ g _ H hg rv_bl FK.refl (by simpa [isS] using h)⟩
    | _ => exact h.elim
  | _ => cases a <;> exact h.elim
end
end L3
set_option maxRecDepth 100000
set_option maxHeartbeats 4000000
namespace L3
open PySem PySem.Spec L2
section
variable {κ α : Type} [DecidableEq κ]
def dGet (kvs : List (κ × α)) (k : κ) : Option α := (kvs.find? fun p => decide (p.1 = k)).map (·.2)
def dPut (kvs : List (κ × α)) (k : κ) (v : α) : List (κ × α) :=
  if (kvs.any fun p => decide (p.1 = k)) = true then kvs.map (fun p => if p.1 = k then (p.1, v) else p) else kvs ++ [(k, v)]
def dDel (kvs : List (κ × α)) (k : κ) : List (κ × α) := kvs.filter fun p => decide (p.1 ≠ k)
end
structure DRel {κ : Type} (K : PySem.W.Frag) (H : Hp) (kvs : List (κ × W)) (l : List (κ × V)) : Prop where
  keys : kvs.map (·.1) = l.map (·.1)
  vals : RVs K H (kvs.map (·.2)) (l.map (·.2))
section
variable {κ : Type} [DecidableEq κ] {K : PySem.W.Frag} {H H' : Hp}
theorem DRel.nil : DRel K H ([] : List (κ × W)) [] := ⟨rfl, .nil⟩
theorem DRel.nil_inv {l : List (κ × V)} (h : DRel K H [] l) : l = [] := by
  have := h.keys; simp at this; exact this
theorem DRel.cons {p : κ × W} {q : κ × V} {kvs : List (κ × W)} {l : List (κ × V)} (e : p.1 = q.1) (r : RV K H p.2 q.2) (h : DRel K H kvs l) : DRel K H (p :: kvs) (q :: l) :=
  ⟨by simp [e, h.keys], .cons r h.vals⟩
theorem DRel.cons_inv {p : κ × W} {kvs : List (κ × W)} {l : List (κ × V)} (h : DRel K H (p :: kvs) l) : ∃ q r, l = q :: r ∧ p.1 = q.1 ∧ RV K H p.2 q.2 ∧ DRel K H kvs r := by
  obtain ⟨h1, h2⟩ := h
  cases l with
  | nil => simp at h1
  | cons q r =>
    simp at h1
    obtain ⟨v, r', e, h3, h4⟩ := RVs.cons_inv h2
    simp at e
    obtain ⟨rfl, rfl⟩ := e
    exact ⟨q, r, rfl, h1.1, h3, h1.2, h4⟩
theorem DRel.keep (t : TK H H') {kvs : List (κ × W)} {l : List (κ × V)} (h : DRel K H kvs l) : DRel K H' kvs l := ⟨h.keys, h.vals.keep t⟩
theorem DRel.length {kvs : List (κ × W)} {l : List (κ × V)} (h : DRel K H kvs l) : l.length = kvs.length := by simpa using h.vals.length
theorem DRel.append {k1 k2 : List (κ × W)} {l1 l2 : List (κ × V)} (h : DRel K H k1 l1) (h' : DRel K H k2 l2) : DRel K H (k1 ++ k2) (l1 ++ l2) :=
  ⟨by simp [h.keys, h'.keys], by simpa using h.vals.append h'.vals⟩
theorem DRel.get : ∀ {kvs : List (κ × W)} {l : List (κ × V)} (k : κ), DRel K H kvs l → (dGet kvs k = none ∧ valV l k = none) ∨ ∃ w v, dGet kvs k = some w ∧ valV l k = some v ∧ RV K H w v
  | [], _, k, h => by rw [h.nil_inv]; exact .inl ⟨rfl, rfl⟩
  | p :: kvs, _, k, h => by
    obtain ⟨q, r, rfl, e, rv, h⟩ := h.cons_inv
    by_cases z : p.1 = k
    · exact .inr ⟨p.2, q.2, by simp [dGet, z], by simp [valV, ← e, z], rv⟩
    · have z' : ¬ q.1 = k := by rw [← e]; exact z
      have e1 : dGet (p :: kvs) k = dGet kvs k := by simp [dGet, List.find?_cons, z]
      have e2 : valV (q :: r) k = valV r k := by simp [valV, List.find?_cons, z']
      rw [e1, e2]
      exact DRel.get k h
theorem DRel.any {kvs : List (κ × W)} {l : List (κ × V)} (h : DRel K H kvs l) (k : κ) : (kvs.any fun p => decide (p.1 = k)) = (l.any fun p => decide (p.1 = k)) := by
  have e1 : (kvs.any fun p => decide (p.1 = k)) = (kvs.map (·.1)).any fun a => decide (a = k) := by simp [List.any_map, Function.comp_def]
  have e2 : (l.any fun p => decide (p.1 = k)) = (l.map (·.1)).any fun a => decide (a = k) := by simp [List.any_map, Function.comp_def]
  rw [e1, e2, h.keys]
theorem DRel.mapPut {w : W} {v : V} (r : RV K H w v) (k : κ) : ∀ {kvs : List (κ × W)} {l : List (κ × V)}, DRel K H kvs l → DRel K H (kvs.map fun p => if p.1 = k then (p.1, w) else p) (l.map fun p => if p.1 = k then (p.1, v) else p)
  | [], _, h => by rw [h.nil_inv]; exact .nil
  | p :: kvs, _, h => by
    obtain ⟨q, r', rfl, e, rv, h⟩ := h.cons_inv
    have ih := DRel.mapPut r k h
    by_cases z : p.1 = k
    · have z' : q.1 = k := by rw [← e]; exact z
      simpa [z, z'] using DRel.cons (p := (k, w)) (q := (k, v)) rfl r ih
    · have z' : ¬ q.1 = k := by rw [← e]; exact z
      simpa [z, z'] using DRel.cons e rv ih
theorem DRel.put {w : W} {v : V} {kvs : List (κ × W)} {l : List (κ × V)} (h : DRel K H kvs l) (k : κ) (r : RV K H w v) : DRel K H (dPut kvs k w) (putK l k v) := by
  unfold dPut putK
  rw [h.any k]
  split
  · exact DRel.mapPut r k h
  · exact h.append (.cons rfl r .nil)
theorem DRel.del (k : κ) : ∀ {kvs : List (κ × W)} {l : List (κ × V)}, DRel K H kvs l → DRel K H (dDel kvs k) (dropK l k)
  | [], _, h => by rw [h.nil_inv]; exact .nil
  | p :: kvs, _, h => by
    obtain ⟨q, r', rfl, e, rv, h⟩ := h.cons_inv
    have ih := DRel.del k h
    by_cases z : p.1 = k
    · have z' : q.1 = k := by rw [← e]; exact z
      simpa [dDel, dropK, z, z'] using ih
    · have z' : ¬ q.1 = k := by rw [← e]; exact z
      simpa [dDel, dropK, z, z'] using DRel.cons e rv ih
end
def toKey : W → Option Key
  | .int i => some (.inl i)
  | .str x => some (.inr x)
  | _ => none
def toKeys : List W → Option (List Key)
  | [] => some []
  | x :: xs => match toKey x, toKeys xs with
    | some k, some ks => some (k :: ks)
    | _, _ => none
theorem rv_key {K : PySem.W.Frag} {H : Hp} {w : W} {k : Key} {v : V} (e : toKey w = some k) (r : RV K H w v) : v = kV k := by
  cases w <;> simp [toKey] at e <;> subst e <;> rw [RV] at r <;> exact r
theorem rv_keys {K : PySem.W.Frag} {H : Hp} : ∀ {ws : List W} {ks : List Key} {vs : List V}, toKeys ws = some ks → RVs K H ws vs → vs = ks.map kV
  | [], ks, _, e, r => by simp [toKeys] at e; subst e; exact r.nil_inv
  | w :: ws, ks, _, e, r => by
    obtain ⟨v, r', rfl, h1, h2⟩ := r.cons_inv
    simp only [toKeys] at e
    split at e
    · rename_i k ks' e1 e2
      simp at e; subst e
      rw [rv_key e1 h1, rv_keys e2 h2]; rfl
    · cases e
def dicAt (g : G) (a : Addr) (y : W) (k : Option W → Prop) : Prop := match g a, y with
  | some (.dic _ kvs), .tup _ => False
  | some (.dic _ kvs), y => match toKey y with
    | some c => k (dGet kvs c)
    | none => False
  | some (.dit _ kvs), .tup ys => match toKeys ys with
    | some c => k (dGet kvs c)
    | none => False
  | _, _ => False
section
variable {E : Env3}
theorem DicAt.rd {H : Hp} {a : Addr} {lk : Bool} {u : HO} (h : DicAt H a lk u) : Rd H a u := by
  cases lk with
  | false => exact .inl h
  | true => obtain ⟨od, e⟩ := h; exact .inr ⟨od, e⟩
theorem dicAt_get {g : G} {H : Hp} {a : Addr} {y : W} {k : Option W → Prop} {v : V} (hg : GR E g H) (r : RV E.K H y v) (h : dicAt g a y k) : ∃ o o', k o ∧ DGet H a v o' ∧ ((o = none ∧ o' = none) ∨ ∃ w u, o = some w ∧ o' = some u ∧ RV E.K H w u) := by
  unfold dicAt at h
  split at h
  · exact h.elim
  · rename_i y' lk kvs eg ny
    obtain ⟨l, hd, e1, e2⟩ := hg _ _ eg
    have hl : DRel E.K H kvs l := ⟨e1, e2⟩
    split at h
    · rename_i c ec
      have ev := rv_key ec r
      subst ev
      refine ⟨dGet kvs c, valV l c, h, .inl ⟨l, c, hd.rd, rfl, rfl⟩, ?_⟩
      rcases hl.get c with ⟨q1, q2⟩ | ⟨w, u, q1, q2, q3⟩
      · exact .inl ⟨q1, q2⟩
      · exact .inr ⟨w, u, q1, q2, q3⟩
    · exact h.elim
  · rename_i lk kvs ys eg
    obtain ⟨l, hd, e1, e2⟩ := hg _ _ eg
    have hl : DRel E.K H kvs l := ⟨e1, e2⟩
    split at h
    · rename_i c ec
      obtain ⟨p, zs, rfl, ht, hr⟩ := rv_tup_inv r
      have ev := rv_keys ec hr
      subst ev
      refine ⟨dGet kvs c, valV l c, h, .inr ⟨l, c, p, hd.rd, rfl, ht, rfl⟩, ?_⟩
      rcases hl.get c with ⟨q1, q2⟩ | ⟨w, u, q1, q2, q3⟩
      · exact .inl ⟨q1, q2⟩
      · exact .inr ⟨w, u, q1, q2, q3⟩
    · exact h.elim
  · exact h.elim
end
def ixS (x y : W) (g : G) (q : VK3) : Prop := match x, y with
  | .ref a, y => match g a with
    | some (.lst xs) => match y with
      | .int i => ∃ v, atI xs i = some v ∧ q v g
      | _ => False
    | _ => dicAt g a y fun o => ∃ v, o = some v ∧ q v g
  | .tup xs, .int i => ∃ v, atI xs i = some v ∧ q v g
  | .scr xs, .int i => ∃ v, atI xs i = some v ∧ q v g
  | .lv xs, .int i => ∃ v, atI xs i = some v ∧ q v g
  | .str z, .int i => z.length ≤ sizeLine ∧ ∃ c, atI z.cps.toList i = some c ∧ q (.str ⟨#[c]⟩) g
  | _, _ => False
theorem atI_rel {K : PySem.W.Frag} {H : Hp} {xs : List W} {ys : List V} {i : Int} {w : W} (r : RVs K H xs ys) (e : atI xs i = some w) : ∃ v, atI ys i = some v ∧ RV K H w v := by
  unfold atI at e ⊢
  rw [r.length]
  cases h : ixN xs.length i with
  | none => rw [h] at e; cases e
  | some j => rw [h] at e; exact r.get e
section
variable {X : Cx} {E : Env3}
theorem ix_dict (hu : X.A.units + 1 < cLine) : IxR X (fun x y H Q => ∃ a v, x = .ref a ∧ DGet H a y (some v) ∧ Q v H) := by
  intro value slice pins s σ H x y v u Q I rx ry h hs
  obtain ⟨a, w, rfl, d, q⟩ := h
  cases rx
  exact PyProof.Rows.tail_any (dict_typeIs I d) PySem.F.slot_dict_getitem.lookup (d_getItem hu I d ry fun w' s' I' r' => ⟨w, H, I', r', q⟩) hs
theorem l_ix (hK : X.K = E.K) (hu : X.A.units + 1 < cLine) : IxR X (lift2 E ixS) := by
  intro value slice pins s σ H x y v u Q I rx ry ⟨a, b, g, q, ha, hb, hg, h, kq⟩ hs
  cases a with
  | ref p =>
    rw [RV] at ha; subst ha
    simp only [ixS] at h
    split at h
    · rename_i xs eg
      cases b with
      | int i =>
        rw [RV] at hb; subst hb
        obtain ⟨w, e, h⟩ := h
        obtain ⟨ys, f1, r1⟩ := hg _ _ eg
        obtain ⟨z, e', rz⟩ := atI_rel r1 e
        exact ix_list value slice pins s σ H _ _ v u Q I rx ry ⟨p, ys, i, z, rfl, rfl, SqL.of f1, e', kq _ g _ H hg rz FK.refl h⟩ hs
      | _ => exact h.elim
    · obtain ⟨o, o', ⟨w, rfl, h⟩, d, r⟩ := dicAt_get hg hb h
      rcases r with ⟨z, _⟩ | ⟨w', z, e1, rfl, rz⟩
      · cases z
      · cases e1
        exact ix_dict hu value slice pins s σ H _ _ v u Q I rx ry ⟨p, z, rfl, d, kq _ g _ H hg rz FK.refl h⟩ hs
  | tup xs =>
    cases b with
    | int i =>
      rw [RV] at hb; subst hb
      obtain ⟨p, ys, rfl, ht, hr⟩ := rv_tup_inv ha
      obtain ⟨w, e, h⟩ := h
      obtain ⟨z, e', rz⟩ := atI_rel hr e
      exact ix_tup value slice pins s σ H _ _ v u Q I rx ry ⟨p, ys, i, z, rfl, rfl, SqT.of ht, e', kq _ g _ H hg rz FK.refl h⟩ hs
    | _ => exact h.elim
  | scr xs =>
    cases b with
    | int i =>
      rw [RV] at hb; subst hb
      obtain ⟨p, ys, rfl, ht, hr⟩ := rv_scr_inv ha
      obtain ⟨w, e, h⟩ := h
      obtain ⟨z, e', rz⟩ := atI_rel hr e
      exact ix_list value slice pins s σ H _ _ v u Q I rx ry ⟨p, ys, i, z, rfl, rfl, by rw [hK]; exact ht.sq, e', kq _ g _ H hg rz FK.refl h⟩ hs
    | _ => exact h.elim
  | lv xs =>
    cases b with
    | int i =>
      rw [RV] at hb; subst hb
      obtain ⟨p, ys, rfl, ht, hr⟩ := rv_lv_inv ha
      obtain ⟨w, e, h⟩ := h
      obtain ⟨z, e', rz⟩ := atI_rel hr e
      exact ix_list value slice pins s σ H _ _ v u Q I rx ry ⟨p, ys, i, z, rfl, rfl, by rw [hK]; exact ht.sq, e', kq _ g _ H hg rz FK.refl h⟩ hs
    | _ => exact h.elim
  | str z =>
    cases b with
    | int i =>
      simp only [RV] at ha hb; subst ha hb
      obtain ⟨hz, c, e, h⟩ := h
      exact ix_str value slice pins s σ H _ _ v u Q I rx ry ⟨z, i, c, rfl, rfl, hz, e, kq _ g _ H hg rv_str FK.refl h⟩ hs
    | _ => exact h.elim
  | _ => cases b <;> exact h.elim
def cutW (xs : List W) (lo hi : Option Int) : List W := (xs.drop (HT.sIx xs.length 0 lo)).take (HT.sIx xs.length xs.length hi - HT.sIx xs.length 0 lo)
theorem cutW_rel {K : PySem.W.Frag} {H : Hp} {xs : List W} {ys : List V} {lo hi : Option Int} (r : RVs K H xs ys) : RVs K H (cutW xs lo hi) (cutV ys lo hi) := by
  unfold cutW cutV
  rw [r.length]
  exact (r.drop _).take _
def slS (x : W) (lo hi : Option Int) (g : G) (q : VK3) : Prop := match x with
  | .ref a => lstAt g a fun xs => newL g (cutW xs lo hi) q
  | .scr xs => newL g (cutW xs lo hi) q
  | .lv xs => newL g (cutW xs lo hi) q
  | .tup xs => q (.tup (cutW xs lo hi)) g
  | .str z => z.length ≤ sizeLine ∧ q (.str (cutS z lo hi)) g
  | _ => False
def liftSl (r : W → Option Int → Option Int → G → VK3 → Prop) : V → Option Int → Option Int → Hp → VK → Prop := fun v lo hi H Q => ∃ a g q, RV E.K H a v ∧ GR E g H ∧ r a lo hi g q ∧ KQ E g H q Q
theorem cutW_all {xs : List W} {lo hi : Option Int} (h : HT.sIx xs.length 0 lo = 0 ∧ HT.sIx xs.length xs.length hi = xs.length) : cutW xs lo hi = xs := by
  unfold cutW; rw [h.1, h.2]; simp
theorem l_sl (hK : X.K = E.K) : SlR X (liftSl (E := E) slS) := by
  intro pins s σ H x v vl vu lo hi sl Q I rx hs pl pu ⟨a, g, q, ha, hg, h, kq⟩
  cases a with
  | ref p =>
    rw [RV] at ha; subst ha
    obtain ⟨xs, e1, h⟩ := lstAt_inv h
    obtain ⟨ys, f1, r1⟩ := hg _ _ e1
    exact sl_list pins s σ H _ v vl vu lo hi sl Q I rx hs pl pu ⟨p, ys, rfl, SqL.of f1, fun t nt => new_lst hg nt (cutW_rel r1) h kq⟩
  | scr xs =>
    obtain ⟨p, ys, rfl, ht, hr⟩ := rv_scr_inv ha
    exact sl_list pins s σ H _ v vl vu lo hi sl Q I rx hs pl pu ⟨p, ys, rfl, by rw [hK]; exact ht.sq, fun t nt => new_lst hg nt (cutW_rel hr) h kq⟩
  | lv xs =>
    obtain ⟨p, ys, rfl, ht, hr⟩ := rv_lv_inv ha
    exact sl_list pins s σ H _ v vl vu lo hi sl Q I rx hs pl pu ⟨p, ys, rfl, by rw [hK]; exact ht.sq, fun t nt => new_lst hg nt (cutW_rel hr) h kq⟩
  | tup xs =>
    obtain ⟨p, ys, rfl, ht, hr⟩ := rv_tup_inv ha
    refine sl_tupA pins s σ H _ v vl vu lo hi sl Q I rx hs pl pu ⟨p, ys, rfl, SqT.of ht, fun z => ?_, fun z t nt => new_tup hg nt (cutW_rel hr) h kq⟩
    rw [hr.length] at z
    have e := cutW_all z
    have h' : q (.tup (cutW xs lo hi)) g := h
    rw [e] at h'
    exact kq _ g _ H hg ha FK.refl h'
  | str z =>
    rw [RV] at ha; subst ha
    exact sl_str pins s σ H _ v vl vu lo hi sl Q I rx hs pl pu ⟨z, rfl, h.1, kq _ g _ H hg rv_str FK.refl h.2⟩
  | _ => exact h.elim
def putS (x y v : W) (g : G) (k : G → Prop) : Prop := match x with
  | .ref a => match g a with
    | some (.lst xs) => match y with
      | .int i => ∃ j, ixN xs.length i = some j ∧ k (gup g a (.lst (xs.set j v)))
      | _ => False
    | some (.dic false kvs) => match toKey y with
      | some c => kvs.length < sizeLine ∧ k (gup g a (.dic false (dPut kvs c v)))
      | none => False
    | some (.dit false kvs) => match y with
      | .tup ys => match toKeys ys with
        | some c => kvs.length < sizeLine ∧ k (gup g a (.dit false (dPut kvs c v)))
        | none => False
      | _ => False
    | _ => False
  | _ => False
def liftPut (r : W → W → W → G → (G → Prop) → Prop) : TSet := fun x y z H Q => ∃ a b c g q, RV E.K H a x ∧ RV E.K H b y ∧ RV E.K H c z ∧ GR E g H ∧ r a b c g q ∧ ∀ g' H', GR E g' H' → FK g H g' H' → q g' → Q H'
theorem l_put (hu : X.A.units + 1 < cLine) : PSet X (liftPut (E := E) putS) := by
  intro pins s σ H o i v ov iv u Q I ro ri rv ⟨a, b, c, g, q, ha, hb, hc, hg, h, kq⟩
  cases a with
  | ref p =>
    rw [RV] at ha; subst ha
    simp only [putS] at h
    split at h
    · rename_i xs eg
      cases b with
      | int k =>
        rw [RV] at hb; subst hb
        obtain ⟨j, e, h⟩ := h
        obtain ⟨ys, f1, r1⟩ := hg _ _ eg
        refine set_list pins s σ H _ _ v ov iv u Q I ro ri rv ⟨p, ys, k, j, rfl, rfl, f1, by rw [r1.length]; exact e, ?_⟩
        have t : TK H (upd H p (.lst (ys.set j v))) := hg.tk eg
        exact kq _ _ (hg.wr (o' := .lst (xs.set j c)) eg ⟨_, upd_same, (r1.keep t).set (hc.keep t) j⟩) (FK.wr eg f1 (fun _ _ z => nomatch z)) h
      | _ => exact h.elim
    · rename_i kvs eg
      split at h
      · rename_i k ek
        have ev := rv_key ek hb
        subst ev
        obtain ⟨l, hd, e1, e2⟩ := hg _ _ eg
        have hl : DRel E.K H kvs l := ⟨e1, e2⟩
        have t : TK H (upd H p (.dK (putK l k v))) := hg.tk eg
        have hp := (hl.keep t).put k (hc.keep t)
        exact set_dict hu pins s σ H _ _ v ov iv u Q I ro ri rv ⟨p, _, rfl, DPut.k hd (by rw [hl.length]; exact h.1), kq _ _ (hg.wr (o' := .dic false (dPut kvs k c)) eg ⟨_, upd_same, hp.keys, hp.vals⟩) (FK.wr eg hd (fun _ _ z => nomatch z)) h.2⟩
      · exact h.elim
    · rename_i kvs eg
      cases b with
      | tup ys =>
        simp only at h
        split at h
        · rename_i k ek
          obtain ⟨pt, zs, rfl, ht, hr⟩ := rv_tup_inv hb
          have ev := rv_keys ek hr
          subst ev
          obtain ⟨l, hd, e1, e2⟩ := hg _ _ eg
          have hl : DRel E.K H kvs l := ⟨e1, e2⟩
          have t : TK H (upd H p (.dT (putK l k v))) := hg.tk eg
          have hp := (hl.keep t).put k (hc.keep t)
          exact set_dict hu pins s σ H _ _ v ov iv u Q I ro ri rv ⟨p, _, rfl, DPut.t hd ht (by rw [hl.length]; exact h.1), kq _ _ (hg.wr (o' := .dit false (dPut kvs k c)) eg ⟨_, upd_same, hp.keys, hp.vals⟩) (FK.wr eg hd (fun _ _ z => nomatch z)) h.2⟩
        · exact h.elim
      | _ => exact h.elim
    · exact h.elim
  | _ => exact h.elim
end
end L3
set_option maxRecDepth 100000
set_option maxHeartbeats 4000000
namespace L3
open PySem PySem.Spec L2
def flatW : W → Bool
  | .non => true
  | .bl _ => true
  | .int _ => true
  | .str _ => true
  | _ => false
def eqW : W → W → Bool
  | .non, .non => true
  | .bl a, .bl b => a == b
  | .bl a, .int b => (if a then 1 else 0) == b
  | .int a, .bl b => a == (if b then 1 else 0)
  | .int a, .int b => a == b
  | .str a, .str b => a == b
  | _, _ => false
def tyNm (g : G) : W → Option String
  | .non => some "NoneType"
  | .bl _ => some "bool"
  | .int _ => some "int"
  | .str _ => some "str"
  | .tup _ => some "tuple"
  | .scr _ => some "list"
  | .lv _ => some "list"
  | .exc _ _ _ => none
  | .ref a => match g a with
    | some (.lst _) => some "list"
    | some (.dic _ _) => some "dict"
    | some (.dit false _) => some "dict"
    | _ => none
def tyAll : List String := ["NoneType", "bool", "int", "str", "tuple", "list", "dict"]
def tySome : List String := ["bool", "int", "str", "tuple", "list", "dict"]
def isiB (n T : String) : Bool := n == T || (n == "bool" && T == "int")
theorem kitB_all : ∀ n ∈ tyAll, ∀ T ∈ tySome, kitB n T = some (isiB n T) := by decide +kernel
theorem tyNm_in {g : G} {w : W} {n : String} (h : tyNm g w = some n) : n ∈ tyAll := by
  unfold tyNm at h
  split at h <;> (try (split at h)) <;> (try (cases h)) <;> (try decide)
def isiS (T : String) (x : W) (g : G) (q : VK3) : Prop := ∃ n, tyNm g x = some n ∧ q (.bl (isiB n T)) g
section
variable {X : Cx} {E : Env3}
theorem flat_rel {K : PySem.W.Frag} {H : Hp} {x : W} {v : V} (r : RV K H x v) (f : flatW x = true) : flatV v = true := by
  cases x <;> simp [flatW] at f <;> simp only [RV] at r <;> subst r <;> rfl
theorem eq_rel {K : PySem.W.Frag} {H : Hp} {x y : W} {v u : V} (r : RV K H x v) (f : flatW x = true) (r' : RV K H y u) (f' : flatW y = true) : eqV v u = eqW x y := by
  cases x <;> simp [flatW] at f <;> simp only [RV] at r <;> subst r <;> cases y <;> simp [flatW] at f' <;> simp only [RV] at r' <;> subst r' <;> rfl
theorem flats_rel {K : PySem.W.Frag} {H : Hp} : ∀ {xs : List W} {vs : List V}, RVs K H xs vs → xs.all flatW = true → vs.all flatV = true
  | [], _, r, _ => by rw [r.nil_inv]; rfl
  | x :: xs, _, r, f => by
    obtain ⟨v, r', rfl, h1, h2⟩ := r.cons_inv
    simp at f
    simp only [List.all_cons, flat_rel h1 f.1, Bool.true_and]
    exact flats_rel h2 (by simpa using f.2)
theorem any_rel {K : PySem.W.Frag} {H : Hp} {y : W} {u : V} (r' : RV K H y u) (f' : flatW y = true) : ∀ {xs : List W} {vs : List V}, RVs K H xs vs → xs.all flatW = true → (vs.any fun z => eqV z u) = xs.any fun z => eqW z y
  | [], _, r, _ => by rw [r.nil_inv]; rfl
  | x :: xs, _, r, f => by
    obtain ⟨v, r2, rfl, h1, h2⟩ := r.cons_inv
    simp at f
    simp only [List.any_cons, eq_rel h1 f.1 r' f']
    rw [any_rel r' f' h2 (by simpa using f.2)]
def inS (neg : Bool) (x y : W) (g : G) (q : VK3) : Prop := match x, y with
  | .str a, .str z => (∃ c, a = ⟨#[c]⟩ ∧ q (.bl (xor neg (decide (c ∈ z.cps.toList)))) g) ∨ q (.bl (xor neg (!(Builtin.Str.occurrences z a 0 z.length 1).isEmpty))) g
  | x, .ref a => match g a with
    | some (.lst xs) => (flatW x = true ∧ xs.all flatW = true ∧ q (.bl (xor neg (xs.any fun z => eqW z x))) g) ∨
        ∃ d ds, DW g x d ∧ DW g (.ref a) (.list ds) ∧ d.plain = true ∧ PyData.plainAll ds = true ∧ d.depth ≤ 64 ∧ q (.bl (xor neg (ds.any fun z => PyData.eqv z d))) g
    | _ => dicAt g a x fun o => q (.bl (xor neg o.isSome)) g
  | x, .tup xs => flatW x = true ∧ xs.all flatW = true ∧ q (.bl (xor neg (xs.any fun z => eqW z x))) g
  | x, .scr xs => flatW x = true ∧ xs.all flatW = true ∧ q (.bl (xor neg (xs.any fun z => eqW z x))) g
  | x, .lv xs => (flatW x = true ∧ xs.all flatW = true ∧ q (.bl (xor neg (xs.any fun z => eqW z x))) g) ∨
      ∃ d ds, DW g x d ∧ DW g (.lv xs) (.list ds) ∧ d.plain = true ∧ PyData.plainAll ds = true ∧ d.depth ≤ 64 ∧ q (.bl (xor neg (ds.any fun z => PyData.eqv z d))) g
  | _, _ => False
theorem l_inG {op : CmpOp} {neg : Bool} (hK : X.K = E.K)
    (h1 : OpR X (compareOp op) (fun x y H Q => ∃ (c : Nat) (z : Str), x = .str ⟨#[c]⟩ ∧ y = .str z ∧ Q (.bl (xor neg (decide (c ∈ z.cps.toList)))) H))
    (h2 : OpR X (compareOp op) (fun x y H Q => ∃ i j, x = .str i ∧ y = .str j ∧ Q (.bl (xor neg (!(Builtin.Str.occurrences j i 0 j.length 1).isEmpty))) H))
    (h3 : OpR X (compareOp op) (rIn X.K neg))
    (h4 : OpR X (compareOp op) (fun x y H Q => ∃ d ds, Dp X.K H x d ∧ Dp X.K H y (.list ds) ∧ d.plain = true ∧ PyData.plainAll ds = true ∧ d.depth ≤ 64 ∧ Q (.bl (xor neg (ds.any fun z => PyData.eqv z d))) H))
    (h5 : OpR X (compareOp op) (fun x y H Q => ∃ a o, y = .ref a ∧ DGet H a x o ∧ Q (.bl (xor neg o.isSome)) H)) : OpR X (compareOp op) (lift2 E (inS neg)) := by
  intro pins s σ H x y v u Q I rx ry ⟨a, b, g, q, ha, hb, hg, h, kq⟩
  have seq : ∀ {xs : List W} {p : Addr} {ys : List V}, y = .ref p → (SqL X.K H p ys ∨ SqT X.K H p ys) → RVs E.K H xs ys → flatW a = true → xs.all flatW = true → q (.bl (xor neg (xs.any fun z => eqW z a))) g →
      wpAny (model X.prog X.w) X.A (compareOp op v u) (EP X pins σ Q) X.xe s := fun {xs p ys} e hs hr fa fs hq => by
    refine h3 pins s σ H _ _ v u Q I rx ry ⟨p, ys, e, hs, flat_rel ha fa, flats_rel hr fs, ?_⟩
    have e2 : inV x ys = xs.any fun z => eqW z a := any_rel ha fa hr fs
    rw [e2]
    refine kq _ g _ H hg rv_bl FK.refl ?_
    cases neg <;> simpa using hq
  have dic : ∀ {p : Addr}, y = .ref p → dicAt g p a (fun o => q (.bl (xor neg o.isSome)) g) → wpAny (model X.prog X.w) X.A (compareOp op v u) (EP X pins σ Q) X.xe s := fun {p} e hd => by
    obtain ⟨o, o', hq, d, r⟩ := dicAt_get hg ha hd
    refine h5 pins s σ H _ _ v u Q I rx ry ⟨p, o', e, d, kq _ g _ H hg rv_bl FK.refl ?_⟩
    rcases r with ⟨e1, e2⟩ | ⟨w', z, e1, e2, _⟩
    · rw [e1] at hq; rw [e2]; exact hq
    · rw [e1] at hq; rw [e2]; exact hq
  cases b with
  | str z =>
    cases a with
    | str i =>
      simp only [RV] at ha hb; subst ha hb
      rcases h with ⟨c, rfl, h⟩ | h
      · exact h1 pins s σ H _ _ v u Q I rx ry ⟨c, z, rfl, rfl, kq _ g _ H hg rv_bl FK.refl h⟩
      · exact h2 pins s σ H _ _ v u Q I rx ry ⟨i, z, rfl, rfl, kq _ g _ H hg rv_bl FK.refl h⟩
    | _ => exact h.elim
  | ref p =>
    have hy : y = .ref p := by simpa only [RV] using hb
    have h' : (match g p with
      | some (.lst xs) => (flatW a = true ∧ xs.all flatW = true ∧ q (.bl (xor neg (xs.any fun z => eqW z a))) g) ∨
          ∃ d ds, DW g a d ∧ DW g (.ref p) (.list ds) ∧ d.plain = true ∧ PyData.plainAll ds = true ∧ d.depth ≤ 64 ∧ q (.bl (xor neg (ds.any fun z => PyData.eqv z d))) g
      | _ => dicAt g p a fun o => q (.bl (xor neg o.isSome)) g) := by cases a <;> exact h
    split at h'
    · rename_i xs eg
      obtain ⟨ys, f1, r1⟩ := hg _ _ eg
      rcases h' with ⟨fa, fs, hq⟩ | ⟨d, ds, d1, d2, s1, s2, s3, hq⟩
      · exact seq hy (.inl (SqL.of f1)) r1 fa fs hq
      · exact h4 pins s σ H _ _ v u Q I rx ry ⟨d, ds, by rw [hK]; exact dp_of hg d1 ha, by rw [hK]; exact dp_of hg d2 hb, s1, s2, s3, kq _ g _ H hg rv_bl FK.refl hq⟩
    · exact dic hy h'
  | tup xs =>
    obtain ⟨p, ys, e, ht, hr⟩ := rv_tup_inv hb
    have h' : flatW a = true ∧ xs.all flatW = true ∧ q (.bl (xor neg (xs.any fun z => eqW z a))) g := by cases a <;> exact h
    exact seq e (.inr (SqT.of ht)) hr h'.1 h'.2.1 h'.2.2
  | scr xs =>
    obtain ⟨p, ys, e, ht, hr⟩ := rv_scr_inv hb
    have h' : flatW a = true ∧ xs.all flatW = true ∧ q (.bl (xor neg (xs.any fun z => eqW z a))) g := by cases a <;> exact h
    exact seq e (.inl (by rw [hK]; exact ht.sq)) hr h'.1 h'.2.1 h'.2.2
  | lv xs =>
    obtain ⟨p, ys, e, ht, hr⟩ := rv_lv_inv hb
    have h' : (flatW a = true ∧ xs.all flatW = true ∧ q (.bl (xor neg (xs.any fun z => eqW z a))) g) ∨
      ∃ d ds, DW g a d ∧ DW g (.lv xs) (.list ds) ∧ d.plain = true ∧ PyData.plainAll ds = true ∧ d.depth ≤ 64 ∧ q (.bl (xor neg (ds.any fun z => PyData.eqv z d))) g := by cases a <;> exact h
    rcases h' with ⟨fa, fs, hq⟩ | ⟨d, ds, d1, d2, s1, s2, s3, hq⟩
    · exact seq e (.inl (by rw [hK]; exact ht.sq)) hr fa fs hq
    · exact h4 pins s σ H _ _ v u Q I rx ry ⟨d, ds, by rw [hK]; exact dp_of hg d1 ha, by rw [hK]; exact dp_of hg d2 hb, s1, s2, s3, kq _ g _ H hg rv_bl FK.refl hq⟩
  | _ => cases a <;> exact h.elim
theorem l_in (hK : X.K = E.K) (hu : X.A.units + 65 < cLine) : OpR X (compareOp .In) (lift2 E (inS false)) :=
  l_inG hK (opI' op_in_sign fun x y H Q ⟨c, z, e1, e2, h⟩ => ⟨c, z, e1, e2, by simpa using h⟩) (opI' op_in_str fun x y H Q ⟨c, z, e1, e2, h⟩ => ⟨c, z, e1, e2, by simpa using h⟩) op_in_seq
    (fun pins s σ H x y v u Q I rx ry ⟨d, ds, a, b, c, e, f, h⟩ => by obtain ⟨as, r1⟩ := Dp.reads I d _ v a rx; obtain ⟨bs, r2⟩ := Dp.reads I (.list ds) _ u b ry; exact PySem.SeqAt.in_list_data r2 r1 e c (by have := Nat.min_le_right (PyData.depthAll ds) d.depth; omega) ⟨.bl _, H, I, rfl, by simpa using h⟩)
    (fun pins s σ H x y v u Q I rx ry ⟨a, o, e, d, h⟩ => by subst e; cases ry; exact d_in (by omega) I d rx fun s' I' => ⟨.bl o.isSome, H, I', rfl, by simpa using h⟩)
theorem l_notin (hK : X.K = E.K) (hu : X.A.units + 65 < cLine) : OpR X (compareOp .NotIn) (lift2 E (inS true)) :=
  l_inG hK (opI' op_notIn_sign fun x y H Q ⟨c, z, e1, e2, h⟩ => ⟨c, z, e1, e2, by simpa using h⟩) (opI' op_notin_str fun x y H Q ⟨c, z, e1, e2, h⟩ => ⟨c, z, e1, e2, by simpa using h⟩) op_notIn_seq
    (fun pins s σ H x y v u Q I rx ry ⟨d, ds, a, b, c, e, f, h⟩ => by obtain ⟨as, r1⟩ := Dp.reads I d _ v a rx; obtain ⟨bs, r2⟩ := Dp.reads I (.list ds) _ u b ry; exact PySem.SeqAt.notIn_list_data r2 r1 e c (by have := Nat.min_le_right (PyData.depthAll ds) d.depth; omega) ⟨.bl _, H, I, rfl, by simpa using h⟩)
    (fun pins s σ H x y v u Q I rx ry ⟨a, o, e, d, h⟩ => by subst e; cases ry; exact d_notIn (by omega) I d rx fun s' I' => ⟨.bl (!o.isSome), H, I', rfl, by simpa using h⟩)
theorem callI {f : Value} {r r' : List V → Hp → VK → Prop} (h : CallR X f r) (i : ∀ x H Q, r' x H Q → r x H Q) : CallR X f r' := fun pins s σ H xs us Q I a q => h pins s σ H xs us Q I a (i _ _ _ q)
def lenS (ws : List W) (g : G) (q : VK3) : Prop := match ws with
  | [.str z] => z.length ≤ sizeLine ∧ q (.int z.length) g
  | [.tup xs] => q (.int xs.length) g
  | [.scr xs] => q (.int xs.length) g
  | [.lv xs] => q (.int xs.length) g
  | [.ref a] => match g a with
    | some (.lst xs) => q (.int xs.length) g
    | some (.dic _ kvs) => q (.int kvs.length) g
    | _ => False
  | _ => False
theorem rvs1 {K : PySem.W.Frag} {H : Hp} {w : W} {vs : List V} (r : RVs K H [w] vs) : ∃ v, vs = [v] ∧ RV K H w v := by
  obtain ⟨v, r', rfl, h1, h2⟩ := r.cons_inv
  rw [h2.nil_inv]; exact ⟨v, rfl, h1⟩
theorem rvs2 {K : PySem.W.Frag} {H : Hp} {w w' : W} {vs : List V} (r : RVs K H [w, w'] vs) : ∃ v v', vs = [v, v'] ∧ RV K H w v ∧ RV K H w' v' := by
  obtain ⟨v, r', rfl, h1, h2⟩ := r.cons_inv
  obtain ⟨v', rfl, h3⟩ := rvs1 h2
  exact ⟨v, v', rfl, h1, h3⟩
theorem l_len (hK : X.K = E.K) : CallR X (.builtin "len") (liftL E lenS) := by
  intro pins s σ H vs us Q I r ⟨ws, g, q, hw, hg, h, kq⟩
  unfold lenS at h
  split at h
  · rename_i z
    obtain ⟨v, rfl, hv⟩ := rvs1 hw
    simp only [RV] at hv; subst hv
    exact call_len pins s σ H _ us Q I r ⟨_, _, rfl, ⟨h.1, rfl⟩, kq _ g _ H hg rv_int FK.refl h.2⟩
  · rename_i xs
    obtain ⟨v, rfl, hv⟩ := rvs1 hw
    obtain ⟨p, ys, rfl, ht, hr⟩ := rv_tup_inv hv
    exact call_len pins s σ H _ us Q I r ⟨_, ys.length, rfl, .inr ⟨ys, SqT.of ht, rfl⟩, kq _ g _ H hg (by rw [hr.length]; exact rv_int) FK.refl h⟩
  · rename_i xs
    obtain ⟨v, rfl, hv⟩ := rvs1 hw
    obtain ⟨p, ys, rfl, ht, hr⟩ := rv_scr_inv hv
    exact call_len pins s σ H _ us Q I r ⟨_, ys.length, rfl, .inl ⟨ys, by rw [hK]; exact ht.sq, rfl⟩, kq _ g _ H hg (by rw [hr.length]; exact rv_int) FK.refl h⟩
  · rename_i xs
    obtain ⟨v, rfl, hv⟩ := rvs1 hw
    obtain ⟨p, ys, rfl, ht, hr⟩ := rv_lv_inv hv
    exact call_len pins s σ H _ us Q I r ⟨_, ys.length, rfl, .inl ⟨ys, by rw [hK]; exact ht.sq, rfl⟩, kq _ g _ H hg (by rw [hr.length]; exact rv_int) FK.refl h⟩
  · rename_i a
    obtain ⟨v, rfl, hv⟩ := rvs1 hw
    simp only [RV] at hv; subst hv
    split at h
    · rename_i xs eg
      obtain ⟨ys, f1, r1⟩ := hg _ _ eg
      exact call_len pins s σ H _ us Q I r ⟨_, ys.length, rfl, .inl ⟨ys, SqL.of f1, rfl⟩, kq _ g _ H hg (by rw [r1.length]; exact rv_int) FK.refl h⟩
    · rename_i lk kvs eg
      obtain ⟨l, hd, e1, e2⟩ := hg _ _ eg
      have hl : l.length = kvs.length := by simpa using e2.length
      obtain ⟨u, rfl, ru⟩ := vals1 r
      cases ru
      exact d_len I hd.rd fun t s' I' => ⟨.int l.length, H, I', ⟨t, rfl⟩, kq _ g _ H hg (by rw [hl]; exact rv_int) FK.refl h⟩
    · exact h.elim
  · exact h.elim
def i1F (c : Int → Prop) (f : Int → W) (ws : List W) (g : G) (q : VK3) : Prop := match ws with
  | [.int i] => c i ∧ q (f i) g
  | _ => False
def i2F (c : Int → Int → Prop) (f : Int → Int → W) (ws : List W) (g : G) (q : VK3) : Prop := match ws with
  | [.int i, .int j] => c i j ∧ q (f i j) g
  | _ => False
theorem l_i1 {f : Value} {c : Int → Prop} {k : Int → W} {k' : Int → V} (hk : ∀ i H, RV E.K H (k i) (k' i)) (h0 : CallR X f (fun xs H Q => ∃ i, xs = [.int i] ∧ c i ∧ Q (k' i) H)) : CallR X f (liftL E (i1F c k)) := by
  intro pins s σ H vs us Q I r ⟨ws, g, q, hw, hg, h, kq⟩
  unfold i1F at h
  split at h
  · rename_i i
    obtain ⟨v, rfl, hv⟩ := rvs1 hw
    simp only [RV] at hv; subst hv
    exact h0 pins s σ H _ us Q I r ⟨i, rfl, h.1, kq _ g _ H hg (hk i H) FK.refl h.2⟩
  · exact h.elim
theorem l_i2F {f : Value} {c : Int → Int → Prop} {k : Int → Int → Int} (h0 : CallR X f (fun xs H Q => ∃ i j, xs = [.int i, .int j] ∧ c i j ∧ Q (.int (k i j)) H)) : CallR X f (liftL E (i2F c fun i j => .int (k i j))) := by
  intro pins s σ H vs us Q I r ⟨ws, g, q, hw, hg, h, kq⟩
  unfold i2F at h
  split at h
  · rename_i i j
    obtain ⟨v, v', rfl, hv, hv'⟩ := rvs2 hw
    simp only [RV] at hv hv'; subst hv hv'
    exact h0 pins s σ H _ us Q I r ⟨i, j, rfl, h.1, kq _ g _ H hg rv_int FK.refl h.2⟩
  · exact h.elim
def absS := i1F (fun _ => True) fun i => .int (if i < 0 then -i else i)
def strS (ws : List W) (g : G) (q : VK3) : Prop := match ws with
  | [.str a] => q (.str a) g
  | ws => i1F (fun i => i.natAbs.log2 < 1920) (fun i => .str (toString i)) ws g q
def max2S := i2F (fun _ _ => True) fun i j => .int (if j > i then j else i)
def min2S := i2F (fun _ _ => True) fun i j => .int (if j < i then j else i)
theorem l_abs : CallR X (.builtin "abs") (liftL E absS) := l_i1 (k' := fun i => .int (if i < 0 then -i else i)) (fun _ _ => rv_int) (callI call_abs fun x H Q ⟨i, a, _, b⟩ => ⟨i, a, b⟩)
theorem l_str : CallR X (.type "str") (liftL E strS) := by
  intro pins s σ H vs us Q I r ⟨ws, g, q, hw, hg, h, kq⟩
  unfold strS at h
  split at h
  · rename_i z
    obtain ⟨v, rfl, hv⟩ := rvs1 hw
    simp only [RV] at hv; subst hv
    exact SkE.call_str_str pins s σ H _ us Q I r ⟨z, rfl, kq _ g _ H hg rv_str FK.refl h⟩
  · exact l_i1 (X := X) (E := E) (f := .type "str") (k' := fun i => .str (toString i)) (fun _ _ => rv_str) (callI call_str_int fun x H Q ⟨i, a, b, c⟩ => ⟨i, a, b, c⟩) pins s σ H vs us Q I r ⟨_, g, q, hw, hg, h, kq⟩
theorem l_max2 (hc : X.calm = true) : CallR X (.builtin "max") (liftL E max2S) := l_i2F (callI (call_max2 hc) fun x H Q ⟨i, j, a, _, b⟩ => ⟨i, j, a, b⟩)
theorem l_min2 (hc : X.calm = true) : CallR X (.builtin "min") (liftL E min2S) := l_i2F (callI (call_min2 hc) fun x H Q ⟨i, j, a, _, b⟩ => ⟨i, j, a, b⟩)
def seqI (x : W) (g : G) (k : List Int → Prop) : Prop := seqAt g x fun xs => ∃ ns : List Int, xs = ns.map W.int ∧ k ns
def mx2 (i j : Int) : Int := if j > i then j else i
def maxS (ws : List W) (g : G) (q : VK3) : Prop := match ws with
  | [.ref a] => lstAt g a fun xs => ∃ ns : List Int, xs = ns.map W.int ∧ 0 < ns.length ∧ ∀ m, m ∈ ns → (∀ y, y ∈ ns → y ≤ m) → q (.int m) g
  | [.lv xs] => ∃ ns : List Int, xs = ns.map W.int ∧ 0 < ns.length ∧ ∀ m, m ∈ ns → (∀ y, y ∈ ns → y ≤ m) → q (.int m) g
  | [.int a, .int b, .int c] => q (.int (mx2 (mx2 a b) c)) g
  | ws => max2S ws g q
def minL (xs : List W) (g : G) (q : VK3) : Prop := ∃ (enc : W → PyData) (y : W) (ys : List W), xs = y :: ys ∧ (∀ x ∈ xs, DW g x (enc x)) ∧ PySem.W.AlikeAll (xs.map enc) ∧ PyData.depthAll (xs.map enc) ≤ 64 ∧ ∀ z ∈ xs, enc z = PySem.W.minD (enc y) (ys.map enc) → q z g
def minS (ws : List W) (g : G) (q : VK3) : Prop := match ws with
  | [.ref a] => lstAt g a fun xs => (∃ ns : List Int, xs = ns.map W.int ∧ 0 < ns.length ∧ ∀ m, m ∈ ns → (∀ y, y ∈ ns → m ≤ y) → q (.int m) g) ∨ minL xs g q
  | [.lv xs] => ∃ ns : List Int, xs = ns.map W.int ∧ 0 < ns.length ∧ ∀ m, m ∈ ns → (∀ y, y ∈ ns → m ≤ y) → q (.int m) g
  | ws => min2S ws g q
theorem nu2 (a b : Int) : nuMax2 (.int a) (.int b) = some (.int (mx2 a b)) := by
  show some (if decide (a < b) = true then V.int b else V.int a) = _
  unfold mx2
  by_cases h : a < b <;> simp [h]
theorem nu3 (a b c : Int) : nuMax3 (.int a) (.int b) (.int c) = some (.int (mx2 (mx2 a b) c)) := by
  show (nuMax2 (.int a) (.int b)).bind (fun m => nuMax2 m (.int c)) = _
  rw [nu2]
  exact nu2 _ _
def mxdL (mn : Bool) (xs : List W) (z : W) (g : G) (q : VK3) : Prop := ∃ ns : List Int, xs = ns.map W.int ∧ (ns = [] → q z g) ∧ ∀ m, m ∈ ns → (∀ y, y ∈ ns → (if mn = true then m ≤ y else y ≤ m)) → q (.int m) g
def mxdS (mn : Bool) (x z : W) (g : G) (q : VK3) : Prop := match x with
  | .ref a => lstAt g a fun xs => mxdL mn xs z g q
  | .lv xs => mxdL mn xs z g q
  | _ => False
theorem l_max (hK : X.K = E.K) (hc : X.calm = true) : CallR X (.builtin "max") (liftL E maxS) := by
  intro pins s σ H vs us Q I r ⟨ws, g, q, hw, hg, h, kq⟩
  unfold maxS at h
  split at h
  · rename_i a
    obtain ⟨v, rfl, hv⟩ := rvs1 hw
    simp only [RV] at hv; subst hv
    obtain ⟨xs, eg, ns, rfl, hn, h⟩ := lstAt_inv h
    obtain ⟨ys, f1, r1⟩ := hg _ _ eg
    have e := r1.ints
    subst e
    exact cr_max hc pins s σ H _ us Q I r ⟨a, ns, rfl, SqL.of f1, hn, fun m h1 h2 => kq _ g _ H hg rv_int FK.refl (h m h1 h2)⟩
  · rename_i xs
    obtain ⟨v, rfl, hv⟩ := rvs1 hw
    obtain ⟨ns, rfl, hn, h⟩ := h
    obtain ⟨p, ys, rfl, ht, hr⟩ := rv_lv_inv hv
    have e := hr.ints
    subst e
    exact cr_max hc pins s σ H _ us Q I r ⟨p, ns, rfl, by rw [hK]; exact ht.sq, hn, fun m h1 h2 => kq _ g _ H hg rv_int FK.refl (h m h1 h2)⟩
  · rename_i a b c
    obtain ⟨v1, vs, rfl, h1, hw⟩ := hw.cons_inv
    obtain ⟨v2, vs, rfl, h2, hw⟩ := hw.cons_inv
    obtain ⟨v3, vs, rfl, h3, hw⟩ := hw.cons_inv
    have e := hw.nil_inv
    simp only [RV] at h1 h2 h3
    subst h1 h2 h3 e
    exact call_max3Nu hc pins s σ H _ us Q I r ⟨.int a, .int b, .int c, .int (mx2 (mx2 a b) c), rfl, nu3 a b c, kq _ g _ H hg rv_int FK.refl h⟩
  · exact l_max2 hc pins s σ H vs us Q I r ⟨_, g, q, hw, hg, h, kq⟩
def sumS (ws : List W) (g : G) (q : VK3) : Prop := match ws with
  | [.ref a] => lstAt g a fun xs => ∃ ns : List Int, xs = ns.map W.int ∧ q (.int ns.sum) g
  | [.lv xs] => ∃ ns : List Int, xs = ns.map W.int ∧ q (.int ns.sum) g
  | _ => False
theorem l_sum (hK : X.K = E.K) (hc : X.calm = true) : CallR X (.builtin "sum") (liftL E sumS) := by
  intro pins s σ H vs us Q I r ⟨ws, g, q, hw, hg, h, kq⟩
  unfold sumS at h
  split at h
  · rename_i a
    obtain ⟨v, rfl, hv⟩ := rvs1 hw
    simp only [RV] at hv; subst hv
    obtain ⟨xs, eg, ns, rfl, h⟩ := lstAt_inv h
    obtain ⟨ys, f1, r1⟩ := hg _ _ eg
    have e := r1.ints
    subst e
    exact cr_sum hc pins s σ H _ us Q I r ⟨a, ns, rfl, SqL.of f1, kq _ g _ H hg rv_int FK.refl h⟩
  · rename_i xs
    obtain ⟨v, rfl, hv⟩ := rvs1 hw
    obtain ⟨ns, rfl, h⟩ := h
    obtain ⟨p, ys, rfl, ht, hr⟩ := rv_lv_inv hv
    have e := hr.ints
    subst e
    exact cr_sum hc pins s σ H _ us Q I r ⟨p, ns, rfl, by rw [hK]; exact ht.sq, kq _ g _ H hg rv_int FK.refl h⟩
  · exact h.elim
theorem RVs.bls {K : PySem.W.Frag} {H : Hp} : ∀ {is : List Bool} {vs : List V}, RVs K H (is.map W.bl) vs → vs = is.map V.bl
  | [], _, h => h.nil_inv
  | i :: is, _, h => by obtain ⟨v, r, rfl, h1, h2⟩ := h.cons_inv; rw [RV] at h1; rw [h1, h2.bls]; rfl
def allS (any : Bool) (ws : List W) (g : G) (q : VK3) : Prop := match ws with
  | [.ref a] => lstAt g a fun xs => ∃ bs : List Bool, xs = bs.map W.bl ∧ q (.bl (if any then bs.any id else bs.all id)) g
  | [.lv xs] => ∃ bs : List Bool, xs = bs.map W.bl ∧ q (.bl (if any then bs.any id else bs.all id)) g
  | _ => False
theorem l_all (hK : X.K = E.K) (hc : X.calm = true) : CallR X (.builtin "all") (liftL E (allS false)) := by
  intro pins s σ H vs us Q I r ⟨ws, g, q, hw, hg, h, kq⟩
  unfold allS at h
  split at h
  · rename_i a
    obtain ⟨v, rfl, hv⟩ := rvs1 hw
    simp only [RV] at hv; subst hv
    obtain ⟨xs, eg, ns, rfl, h⟩ := lstAt_inv h
    obtain ⟨ys, f1, r1⟩ := hg _ _ eg
    have e := r1.bls
    subst e
    exact cr_all hc pins s σ H _ us Q I r ⟨a, ns, rfl, SqL.of f1, kq _ g _ H hg rv_bl FK.refl (by simpa using h)⟩
  · rename_i xs
    obtain ⟨v, rfl, hv⟩ := rvs1 hw
    obtain ⟨ns, rfl, h⟩ := h
    obtain ⟨p, ys, rfl, ht, hr⟩ := rv_lv_inv hv
    have e := hr.bls
    subst e
    exact cr_all hc pins s σ H _ us Q I r ⟨p, ns, rfl, by rw [hK]; exact ht.sq, kq _ g _ H hg rv_bl FK.refl (by simpa using h)⟩
  · exact h.elim
theorem l_any (hK : X.K = E.K) (hc : X.calm = true) : CallR X (.builtin "any") (liftL E (allS true)) := by
  intro pins s σ H vs us Q I r ⟨ws, g, q, hw, hg, h, kq⟩
  unfold allS at h
  split at h
  · rename_i a
    obtain ⟨v, rfl, hv⟩ := rvs1 hw
    simp only [RV] at hv; subst hv
    obtain ⟨xs, eg, ns, rfl, h⟩ := lstAt_inv h
    obtain ⟨ys, f1, r1⟩ := hg _ _ eg
    have e := r1.bls
    subst e
    exact cr_any hc pins s σ H _ us Q I r ⟨a, ns, rfl, SqL.of f1, kq _ g _ H hg rv_bl FK.refl (by simpa using h)⟩
  · rename_i xs
    obtain ⟨v, rfl, hv⟩ := rvs1 hw
    obtain ⟨ns, rfl, h⟩ := h
    obtain ⟨p, ys, rfl, ht, hr⟩ := rv_lv_inv hv
    have e := hr.bls
    subst e
    exact cr_any hc pins s σ H _ us Q I r ⟨p, ns, rfl, by rw [hK]; exact ht.sq, kq _ g _ H hg rv_bl FK.refl (by simpa using h)⟩
  · exact h.elim
def sortL (xs : List W) (g : G) (q : VK3) : Prop := ∃ enc : W → PyData, (∀ x ∈ xs, DW g x (enc x)) ∧ PySem.W.AllAlike (xs.map enc) ∧ PySem.W.Sortable (xs.map enc) ∧ (∀ x ∈ xs, (enc x).depth ≤ 64) ∧ newL g (xs.mergeSort (PySem.W.dataLe false enc)) q
def keysL (x : W) (g : G) (k : List Key → Prop) : Prop := match x with
  | .ref a => lstAt g a fun xs => ∃ ks : List Key, xs = ks.map kW ∧ k ks
  | .scr xs => ∃ ks : List Key, xs = ks.map kW ∧ k ks
  | .lv xs => ∃ ks : List Key, xs = ks.map kW ∧ k ks
  | _ => False
def lsetS (x : W) (g : G) (q : VK3) : Prop := keysL x g fun ks => ks.length ≤ 4000 ∧ ∀ ms : List Key, ms.Nodup → (∀ k, k ∈ ms ↔ k ∈ ks) → q (.int (ms.length : Nat)) g
def ssetS (x : W) (g : G) (q : VK3) : Prop := keysL x g fun ks => ks.length ≤ 4000 ∧ ∀ ms : List Key, ms.Nodup → (∀ k, k ∈ ms ↔ k ∈ ks) → sortL (ms.map kW) g q
def sortedS3 (ws : List W) (g : G) (q : VK3) : Prop := match ws with
  | [.ref a] => match g a with
    | some (.lst xs) => sortL xs g q
    | some (.dic _ kvs) => sortL (kvs.map fun p => kW p.1) g q
    | some (.dit _ kvs) => sortL (kvs.map fun p => ktW p.1) g q
    | _ => False
  | [.scr xs] => sortL xs g q
  | [.lv xs] => sortL xs g q
  | _ => False
def dictS (ws : List W) (g : G) (q : VK3) : Prop := match ws with
  | [.ref a] => match g a with
    | some (.dic _ kvs) => ∀ p, g p = none → q (.ref p) (gup g p (.dic false kvs))
    | _ => False
  | _ => False
def dgetS (a y d : W) (g : G) (q : VK3) : Prop := match a with
  | .ref p => dicAt g p y fun o => q (o.getD d) g
  | _ => False
def setdS (a y d : W) (g : G) (q : VK3) : Prop := match a with
  | .ref p => match g p, toKey y with
    | some (.dic false kvs), some k => kvs.length < sizeLine ∧ match dGet kvs k with
      | some v => q v g
      | none => q d (gup g p (.dic false (dPut kvs k d)))
    | _, _ => False
  | _ => False
def dpopS (a y : W) (g : G) (q : VK3) : Prop := match a with
  | .ref p => match g p, toKey y with
    | some (.dic false kvs), some k => ∃ v, dGet kvs k = some v ∧ q v (gup g p (.dic false (dDel kvs k)))
    | _, _ => False
  | _ => False
def indexS (x : W) (ws : List W) (g : G) (q : VK3) : Prop := match x, ws with
  | .ref a, [y] => lstAt g a fun xs => flatW y = true ∧ xs.all flatW = true ∧ ∃ (j : Nat) (z : W), xs[j]? = some z ∧ eqW z y = true ∧ (∀ (m : Nat) (z' : W), m < j → xs[m]? = some z' → eqW z' y = false) ∧ q (.int (j : Nat)) g
  | .lv xs, [y] => flatW y = true ∧ xs.all flatW = true ∧ ∃ (j : Nat) (z : W), xs[j]? = some z ∧ eqW z y = true ∧ (∀ (m : Nat) (z' : W), m < j → xs[m]? = some z' → eqW z' y = false) ∧ q (.int (j : Nat)) g
  | _, _ => False
def removeS (x : W) (ws : List W) (g : G) (q : VK3) : Prop := match x, ws with
  | .ref a, [y] => lstAt g a fun xs => ∃ (enc : W → PyData) (d : PyData) (j : Nat), (∀ x ∈ xs, DW g x (enc x)) ∧ DW g y d ∧ PyData.plainAll (xs.map enc) = true ∧ d.plain = true ∧ d.depth ≤ 64 ∧ PySem.SeqAt.dataPlace (xs.map enc) d = some j ∧ q .non (gup g a (.lst (xs.eraseIdx j)))
  | _, _ => False
def intS (ws : List W) (g : G) (q : VK3) : Prop := match ws with
  | [.int i] => q (.int i) g
  | [.bl b] => q (.int (if b then 1 else 0)) g
  | [.str a] => a.length ≤ 640 ∧ ∃ n, PySem.intText? a = some n ∧ q (.int n) g
  | _ => False
theorem l_int : CallR X (.type "int") (liftL E intS) := by
  intro pins s σ H vs us Q I r ⟨ws, g, q, hw, hg, h, kq⟩
  unfold intS at h
  split at h
  · rename_i i
    obtain ⟨v, rfl, hv⟩ := rvs1 hw
    simp only [RV] at hv; subst hv
    exact call_int1 pins s σ H _ us Q I r (.inl ⟨i, rfl, kq _ g _ H hg rv_int FK.refl h⟩)
  · rename_i b
    obtain ⟨v, rfl, hv⟩ := rvs1 hw
    simp only [RV] at hv; subst hv
    exact call_int1 pins s σ H _ us Q I r (.inr ⟨b, rfl, kq _ g _ H hg rv_int FK.refl h⟩)
  · rename_i a
    obtain ⟨v, rfl, hv⟩ := rvs1 hw
    simp only [RV] at hv; subst hv
    obtain ⟨ha, n, e, h⟩ := h
    exact call_int_str pins s σ H _ us Q I r ⟨a, n, rfl, e, ha, kq _ g _ H hg rv_int FK.refl h⟩
  · exact h.elim
def listS (ws : List W) (g : G) (q : VK3) : Prop := match ws with
  | [.ref a] => match g a with
    | some (.lst xs) => newL g xs q
    | some (.dic false kvs) => newL g (kvs.map fun p => kW p.1) q
    | _ => False
  | [.tup xs] => newL g xs q
  | [.scr xs] => newL g xs q
  | [.lv xs] => newL g xs q
  | _ => False
theorem rvs_keys {K : PySem.W.Frag} {H : Hp} : ∀ (l : List Key), RVs K H (l.map kW) (l.map kV)
  | [] => .nil
  | .inl i :: l => .cons rv_int (rvs_keys l)
  | .inr i :: l => .cons rv_str (rvs_keys l)
theorem rvs_dkeys {K : PySem.W.Frag} {H : Hp} {kvs : List (Key × W)} {l : List (Key × V)} (e : kvs.map (·.1) = l.map (·.1)) : RVs K H (kvs.map fun p => kW p.1) (l.map fun p => kV p.1) := by
  have e1 : (kvs.map fun p => kW p.1) = (kvs.map (·.1)).map kW := by simp [Function.comp_def]
  have e2 : (l.map fun p => kV p.1) = (l.map (·.1)).map kV := by simp [Function.comp_def]
  rw [e1, e2, e]
  exact rvs_keys _
theorem l_list (hK : X.K = E.K) (hc : X.calm = true) : CallR X (.type "list") (liftL E listS) := by
  intro pins s σ H vs us Q I r ⟨ws, g, q, hw, hg, h, kq⟩
  unfold listS at h
  split at h
  · rename_i a
    obtain ⟨v, rfl, hv⟩ := rvs1 hw
    simp only [RV] at hv; subst hv
    split at h
    · rename_i xs eg
      obtain ⟨ys, f1, r1⟩ := hg _ _ eg
      exact call_list_of pins s σ H _ us Q I r ⟨a, ys, rfl, .inl (SqL.of f1), fun l hl => new_lst hg hl r1 h kq⟩
    · rename_i kvs eg
      obtain ⟨l, hd, e1, e2⟩ := hg _ _ eg
      exact call_list_dK hc pins s σ H _ us Q I r ⟨a, l, rfl, hd, fun t nt => new_lst hg nt (rvs_dkeys e1) h kq⟩
    · exact h.elim
  · rename_i xs
    obtain ⟨v, rfl, hv⟩ := rvs1 hw
    obtain ⟨p, ys, rfl, ht, hr⟩ := rv_tup_inv hv
    exact call_list_of pins s σ H _ us Q I r ⟨p, ys, rfl, .inr (SqT.of ht), fun l hl => new_lst hg hl hr h kq⟩
  · rename_i xs
    obtain ⟨v, rfl, hv⟩ := rvs1 hw
    obtain ⟨p, ys, rfl, ht, hr⟩ := rv_scr_inv hv
    exact call_list_of pins s σ H _ us Q I r ⟨p, ys, rfl, .inl (by rw [hK]; exact ht.sq), fun l hl => new_lst hg hl hr h kq⟩
  · rename_i xs
    obtain ⟨v, rfl, hv⟩ := rvs1 hw
    obtain ⟨p, ys, rfl, ht, hr⟩ := rv_lv_inv hv
    exact call_list_of pins s σ H _ us Q I r ⟨p, ys, rfl, .inl (by rw [hK]; exact ht.sq), fun l hl => new_lst hg hl hr h kq⟩
  · exact h.elim
def divmodS (ws : List W) (g : G) (q : VK3) : Prop := match ws with
  | [.int i, .int j] => CDivP i j ∧ q (.tup [.int (i / j), .int (i % j)]) g
  | _ => False
theorem l_divmod : CallR X (.builtin "divmod") (liftL E divmodS) := by
  intro pins s σ H vs us Q I r ⟨ws, g, q, hw, hg, h, kq⟩
  unfold divmodS at h
  split at h
  · rename_i i j
    obtain ⟨v, v', rfl, hv, hv'⟩ := rvs2 hw
    simp only [RV] at hv hv'; subst hv hv'
    exact call_divmodW pins s σ H _ us Q I r ⟨i, j, rfl, h.1, fun p np => new_tup hg np (.cons rv_int (.cons rv_int .nil)) h.2 kq⟩
  · exact h.elim
def isLst (x : W) (g : G) : Prop := match x with
  | .ref a => ∃ xs, g a = some (.lst xs)
  | .lv _ => True
  | _ => False
def isStr (x : W) (_ : G) : Prop := match x with
  | .str _ => True
  | _ => False
def isDic (x : W) (g : G) : Prop := match x with
  | .ref a => match g a with
    | some (.dic _ _) => True
    | some (.dit _ _) => True
    | _ => False
  | _ => False
def appendS (x : W) (ws : List W) (g : G) (q : VK3) : Prop := match x, ws with
  | .ref a, [w] => lstAt g a fun xs => xs.length < sizeLine ∧ q .non (gup g a (.lst (xs ++ [w])))
  | _, _ => False
theorem l_append : MtR X "list.append" (liftM E appendS) := by
  intro pins s σ H x vs v us Q I rx r ⟨a, ws, g, q, ha, hw, hg, h, kq⟩
  unfold appendS at h
  split at h
  · rename_i p w
    simp only [RV] at ha; subst ha
    obtain ⟨y, rfl, hy⟩ := rvs1 hw
    obtain ⟨xs, eg, h1, h2⟩ := lstAt_inv h
    obtain ⟨ys, f1, r1⟩ := hg _ _ eg
    have t : TK H (upd H p (.lst (ys ++ [y]))) := hg.tk eg
    exact mt_append pins s σ H _ _ v us Q I rx r ⟨p, ys, y, rfl, rfl, f1, by rw [r1.length]; exact h1, kq _ _ _ _ (hg.wr (o' := .lst (xs ++ [w])) eg ⟨_, upd_same, (r1.keep t).append (.cons (hy.keep t) .nil)⟩) rv_non (FK.wr eg f1 (fun _ _ z => nomatch z)) h2⟩
  · exact h.elim
def extendS (x : W) (ws : List W) (g : G) (q : VK3) : Prop := match x, ws with
  | .ref a, [.ref b] => lstAt g a fun xs => lstAt g b fun zs => xs.length + zs.length ≤ sizeLine ∧ q .non (gup g a (.lst (xs ++ zs)))
  | .ref a, [.lv zs] => lstAt g a fun xs => xs.length + zs.length ≤ sizeLine ∧ q .non (gup g a (.lst (xs ++ zs)))
  | _, _ => False
theorem mt_extendR : MtR X "list.extend" (fun x vs H Q => ∃ l b xs zs, x = .ref l ∧ vs = [.ref b] ∧ H l = some (.lst xs) ∧ Rd H b (.lst zs) ∧ xs.length + zs.length ≤ sizeLine ∧ Q .non (upd H l (.lst (xs ++ zs)))) := by
  intro pins s σ H x vs v us Q I rx rv h
  obtain ⟨l, b, xs, zs, rfl, rfl, hH, hB, hz, q⟩ := h
  cases rx
  obtain ⟨u, rfl, ru⟩ := rv.one
  cases ru
  obtain ⟨z, its, n, r, hl, e⟩ := I.lstM hH
  obtain ⟨z2, its2, n2, r2, hl2, e2⟩ := rd_lstM I hB
  have hsz : its.toArray.size + its2.toArray.size ≤ sizeLine := by rw [List.size_toArray, List.size_toArray]; omega
  have hlong : ¬ (!its.toArray.isEmpty && Builtin.List.listTooLong (its.toArray.size + its2.toArray.size)) = true := by
    rw [notLongL hsz, Bool.and_false]
    exact Bool.false_ne_true
  refine call_meets F.slot_list_extend ⟨_, e, rfl⟩ F.entry_list_extend (F.args_list_extend_2 _ _)
    (AutoSeq1.list_extend_list_list_0 l its.toArray n b its2.toArray n2 hlong (by rw [List.size_toArray]; omega) (by omega)) ⟨e, e2, ?_⟩
  refine ⟨.non, _, I.lset (its' := its ++ its2) hH e (by simp) (r.append r2) ?_, rfl, q⟩
  rw [List.length_append]
  omega
theorem l_extend : MtR X "list.extend" (liftM E extendS) := by
  intro pins s σ H x vs v us Q I rx r ⟨a, ws, g, q, ha, hw, hg, h, kq⟩
  unfold extendS at h
  split at h
  · rename_i p b
    simp only [RV] at ha; subst ha
    obtain ⟨y, rfl, hy⟩ := rvs1 hw
    simp only [RV] at hy; subst hy
    obtain ⟨xs, eg, h⟩ := lstAt_inv h
    obtain ⟨zs, eb, h1, h2⟩ := lstAt_inv h
    obtain ⟨ys, f1, r1⟩ := hg _ _ eg
    obtain ⟨zv, f2, r2⟩ := hg _ _ eb
    have t : TK H (upd H p (.lst (ys ++ zv))) := hg.tk eg
    exact mt_extend pins s σ H _ _ v us Q I rx r ⟨p, b, ys, zv, rfl, rfl, f1, f2, by rw [r1.length, r2.length]; exact h1, kq _ _ _ _ (hg.wr (o' := .lst (xs ++ zs)) eg ⟨_, upd_same, (r1.keep t).append (r2.keep t)⟩) rv_non (FK.wr eg f1 (fun _ _ z => nomatch z)) h2⟩
  · rename_i p zs
    simp only [RV] at ha; subst ha
    obtain ⟨y, rfl, hy⟩ := rvs1 hw
    obtain ⟨xs, eg, h⟩ := lstAt_inv h
    obtain ⟨ys, f1, r1⟩ := hg _ _ eg
    obtain ⟨b, zv, rfl, ⟨o, f2⟩, r2⟩ := rv_lv_fr hy
    have t : TK H (upd H p (.lst (ys ++ zv))) := hg.tk eg
    exact mt_extendR pins s σ H _ _ v us Q I rx r ⟨p, b, ys, zv, rfl, rfl, f1, .inr ⟨o, f2⟩, by rw [r1.length, r2.length]; exact h.1, kq _ _ _ _ (hg.wr (o' := .lst (xs ++ zs)) eg ⟨_, upd_same, (r1.keep t).append (r2.keep t)⟩) rv_non (FK.wr eg f1 (fun _ _ z => nomatch z)) h.2⟩
  · exact h.elim
def popS (x : W) (ws : List W) (g : G) (q : VK3) : Prop := match x, ws with
  | .ref a, [] => lstAt g a fun xs => ∃ y, xs[xs.length - 1]? = some y ∧ q y (gup g a (.lst xs.dropLast))
  | _, _ => False
theorem l_pop : MtR X "list.pop" (liftM E popS) := by
  intro pins s σ H x vs v us Q I rx r ⟨a, ws, g, q, ha, hw, hg, h, kq⟩
  unfold popS at h
  split at h
  · rename_i p
    simp only [RV] at ha; subst ha
    have e0 := hw.nil_inv
    subst e0
    obtain ⟨xs, eg, y, e1, h2⟩ := lstAt_inv h
    obtain ⟨ys, f1, r1⟩ := hg _ _ eg
    obtain ⟨z, e2, rz⟩ := r1.get e1
    have t : TK H (upd H p (.lst ys.dropLast)) := hg.tk eg
    exact mt_pop pins s σ H _ _ v us Q I rx r ⟨p, ys, z, rfl, rfl, f1, by rw [r1.length]; exact e2, kq _ _ _ _ (hg.wr (o' := .lst xs.dropLast) eg ⟨_, upd_same, (r1.keep t).dropLast⟩) (rz.keep t) (FK.wr eg f1 (fun _ _ z => nomatch z)) h2⟩
  · exact h.elim
def joinS (x : W) (ws : List W) (g : G) (q : VK3) : Prop := match x, ws with
  | .str a, [.ref b] => lstAt g b fun xs => ∃ ys : List Str, xs = ys.map W.str ∧ (ys.map (·.length)).sum + ys.length * a.length ≤ 16777216 ∧ q (.str (Txt.join a ys)) g
  | .str a, [.lv xs] => ∃ ys : List Str, xs = ys.map W.str ∧ (ys.map (·.length)).sum + ys.length * a.length ≤ 16777216 ∧ q (.str (Txt.join a ys)) g
  | _, _ => False
theorem l_join (hK : X.K = E.K) : MtR X "str.join" (liftM E joinS) := by
  intro pins s σ H x vs v us Q I rx r ⟨a, ws, g, q, ha, hw, hg, h, kq⟩
  unfold joinS at h
  split at h
  · rename_i z b
    simp only [RV] at ha; subst ha
    obtain ⟨y, rfl, hy⟩ := rvs1 hw
    simp only [RV] at hy; subst hy
    obtain ⟨xs, eg, ys, rfl, h1, h2⟩ := lstAt_inv h
    obtain ⟨yv, f1, r1⟩ := hg _ _ eg
    have e := r1.strs
    subst e
    exact mt_join pins s σ H _ _ v us Q I rx r ⟨z, b, ys, rfl, rfl, .inl (SqL.of f1), h1, kq _ g _ H hg rv_str FK.refl h2⟩
  · rename_i z xs
    simp only [RV] at ha; subst ha
    obtain ⟨y, rfl, hy⟩ := rvs1 hw
    obtain ⟨ys, rfl, h1, h2⟩ := h
    obtain ⟨p, yv, rfl, ht, hr⟩ := rv_lv_inv hy
    have e := hr.strs
    subst e
    exact mt_join pins s σ H _ _ v us Q I rx r ⟨z, p, ys, rfl, rfl, .inl (by rw [hK]; exact ht.sq), h1, kq _ g _ H hg rv_str FK.refl h2⟩
  · exact h.elim
def splitS (x : W) (ws : List W) (g : G) (q : VK3) : Prop := match x, ws with
  | .str a, [.str b] => (b.length == 0) = false ∧ a.length + 2 ≤ sizeLine ∧ newL g ((Txt.split a b).map W.str) q
  | _, _ => False
theorem l_split : MtR X "str.split" (liftM E splitS) := by
  intro pins s σ H x vs v us Q I rx r ⟨a, ws, g, q, ha, hw, hg, h, kq⟩
  unfold splitS at h
  split at h
  · rename_i z b
    simp only [RV] at ha; subst ha
    obtain ⟨y, rfl, hy⟩ := rvs1 hw
    simp only [RV] at hy; subst hy
    exact mt_split pins s σ H _ _ v us Q I rx r ⟨z, b, rfl, rfl, h.1, h.2.1, fun p np => new_lst hg np (RVs.of_strs _) h.2.2 kq⟩
  · exact h.elim
def partitionS (x : W) (ws : List W) (g : G) (q : VK3) : Prop := match x, ws with
  | .str a, [.str b] => (b.length == 0) = false ∧ a.length ≤ sizeLine ∧ q (.tup [.str (Txt.partition a b).1, .str (Txt.partition a b).2.1, .str (Txt.partition a b).2.2]) g
  | _, _ => False
theorem l_partition : MtR X "str.partition" (liftM E partitionS) := by
  intro pins s σ H x vs v us Q I rx r ⟨a, ws, g, q, ha, hw, hg, h, kq⟩
  unfold partitionS at h
  split at h
  · rename_i z b
    simp only [RV] at ha; subst ha
    obtain ⟨y, rfl, hy⟩ := rvs1 hw
    simp only [RV] at hy; subst hy
    exact mt_partition pins s σ H _ _ v us Q I rx r ⟨z, b, rfl, rfl, h.1, h.2.1, fun p np => new_tup hg np (.cons rv_str (.cons rv_str (.cons rv_str .nil))) h.2.2 kq⟩
  · exact h.elim
end
def dEq (ka kb : List (Key × W)) (e : Key → Bool) : Bool := ka.length == kb.length && ka.all fun p => (dGet kb p.1).isSome && e p.1
inductive EqW (g : G) : Nat → W → W → Bool → Prop
  | data {n : Nat} {x y : W} {d e : PyData} (h1 : DW g x d) (h2 : DW g y e) (p1 : d.plain = true) (p2 : e.plain = true) (hn : d.depth ≤ n) : EqW g n x y (PyData.eqv d e)
  | same {n : Nat} {a : Addr} : EqW g n (.ref a) (.ref a) true
  | dicts {n : Nat} {a b : Addr} {lk lk' : Bool} {ka kb : List (Key × W)} {e : Key → Bool} (ne : a ≠ b) (ha : g a = some (.dic lk ka)) (hb : g b = some (.dic lk' kb)) (t : ∀ k v y, (k, v) ∈ ka → dGet kb k = some y → EqW g n v y (e k)) :
      EqW g (n + 1) (.ref a) (.ref b) (dEq ka kb e)
  | lists {n : Nat} {a b : Addr} {xs ys : List W} {e : Nat → Bool} (ne : a ≠ b) (ha : g a = some (.lst xs)) (hb : g b = some (.lst ys)) (hl : xs.length = ys.length) (t : ∀ i x y, xs[i]? = some x → ys[i]? = some y → EqW g n x y (e i)) :
      EqW g (n + 1) (.ref a) (.ref b) ((List.range xs.length).all e)
def deqS (neg : Bool) (x y : W) (g : G) (q : VK3) : Prop := match x, y with
  | .ref a, .ref b => match g a, g b with
    | some (.dic _ ka), some (.dic _ kb) => ∃ (n : Nat) (e : Key → Bool), n ≤ 50 ∧ (∀ k v y, (k, v) ∈ ka → dGet kb k = some y → EqW g n v y (e k)) ∧ q (.bl (xor neg (dEq ka kb e))) g
    | some (.lst xs), some (.lst ys) => xs.length = ys.length ∧ ∃ (n : Nat) (e : Nat → Bool), n ≤ 50 ∧ (∀ i x y, xs[i]? = some x → ys[i]? = some y → EqW g n x y (e i)) ∧ q (.bl (xor neg ((List.range xs.length).all e))) g
    | _, _ => False
  | _, _ => False
end L3
set_option maxRecDepth 100000
set_option maxHeartbeats 4000000
namespace L3
open PySem PySem.Spec L2
def putG (f : Str) (v : W) : List (Str × W) → List (Str × W)
  | [] => [(f, v)]
  | (g, x) :: r => if g = f then (g, v) :: r else (g, x) :: putG f v r
inductive Bo | add | sub | mul | fdiv | mod | pow
  deriving DecidableEq
inductive Co | eq | ne | lt | le | gt | ge | is | isnot | in_ | notin | deq | dne
  deriving DecidableEq
inductive Pr | len | abs | str | max | min | sum | all | any | int | list | divmod | sorted | dict
  deriving DecidableEq
inductive Mt | append | extend | pop | join | split | partition | index | remove
  deriving DecidableEq
inductive T3 | name (i : Nat) | tup (is : List Nat)
mutual
inductive E3
  | var (i : Nat)
  | int (i : Int)
  | str (x : Str)
  | bl (b : Bool)
  | non
  | glob (i : Nat)
  | bin (o : Bo) (a b : E3)
  | neg (a : E3)
  | cmp (o : Co) (a b : E3)
  | cmp2 (o o' : Co) (a b c : E3)
  | cmp3 (o o' o'' : Co) (a b c d : E3)
  | and (es : Es3)
  | or (es : Es3)
  | not (a : E3)
  | ite (c a b : E3)
  | lst (es : Es3)
  | tup (es : Es3)
  | dic (t : Bool)
  | ix (a i : E3)
  | sl (a : E3) (lo hi : O3)
  | call (f : Nat) (es : Es3)
  | prim (p : Pr) (es : Es3)
  | meth (m : Mt) (o : E3) (es : Es3)
  | isi (a : E3) (T : String)
  | isx (i : Nat) (y : Str) (row : List Bool)
  | isxs (i : Nat) (ys : List (Str × List Bool))
  | lc (elt : E3) (tg : T3) (it : I3) (c : O3) (own : List Nat)
  | lcK (elt : E3) (tg : T3) (it : I3) (c : O3) (own : List Nat)
  | dget1 (o e : E3)
  | dget2 (o e d : E3)
  | dsetd (o e d : E3)
  | dpop1 (o e : E3)
  | dic1 (k v : E3)
  | dic2 (k v k2 v2 : E3)
  | lrev (e : E3)
  | lset (e : E3)
  | mxd (mn : Bool) (e d : E3)
  | sset (e : E3)
  | frz (e : E3)
  | attr (o : E3) (f : Str)
  | mcall (o : E3) (m : Str) (es : Es3)
  | new (c f : Nat) (es : Es3)
  | fmt (e : E3)
  | nev
  | ccall (c f : Nat) (m : Str) (es : Es3)
  | isc (a : E3) (y : Str) (row : List Bool)
  | fstr (es : Es3)
  | xattr (i : Nat) (f : Str)
  | hcall (f : Nat) (es : Es3)
inductive Es3
  | nil
  | cons (e : E3) (es : Es3)
inductive O3
  | none
  | some (e : E3)
inductive I3
  | seq (e : E3)
  | rng1 (a : E3)
  | rng2 (a b : E3)
  | rng3 (a b c : E3)
  | str (e : E3)
  | rev (e : E3)
  | enum (e : E3)
  | zip (a b : E3)
  | keys (e : E3)
  | items (e : E3)
end
mutual
inductive S3
  | expr (e : E3)
  | ret (e : E3)
  | retN
  | set (i : Nat) (e : E3)
  | setT (is : List Nat) (e : E3)
  | par (i j : Nat) (a b : E3)
  | put (o i e : E3)
  | ifS (c : E3) (a b : Ss3)
  | for_ (tg : T3) (it : I3) (body : Ss3)
  | forK (tg : T3) (it : I3) (body : Ss3)
  | while_ (c : E3) (body : Ss3)
  | brk
  | cont
  | pass
  | raise_ (c : Nat)
  | try_ (body : Ss3) (y : Str) (row : List Bool) (nm : Option Nat) (suite : Ss3) (els : Ss3)
  | never
  | seta (o : E3) (f : Str) (e : E3)
  | fz (i : Nat) (st : S3)
  | raiseF (c : Nat) (f : Str) (e : E3)
inductive Ss3
  | nil
  | cons (s : S3) (ss : Ss3)
end
def setAll {α : Type} : List Nat → List α → List (Option α) → List (Option α)
  | i :: is, x :: xs, s => setAll is xs (s.set i (some x))
  | _, _, s => s
def asg (t : T3) (w : W) (s : Sx) (g : G) (k : Sx → Prop) : Prop := match t with
  | .name i => k (s.set i (some w))
  | .tup is => seqAt g w fun xs => xs.length = is.length ∧ k (setAll is xs s)
def wipe3 (s : Sx) : List Nat → Sx
  | [] => s
  | v :: vs => (wipe3 s vs).set v none
def boS : Bo → W → W → G → VK3 → Prop
  | .add => addS | .sub => subS | .mul => mulS | .fdiv => fdivS | .mod => modS | .pow => powS
def coS : Co → W → W → G → VK3 → Prop
  | .eq => eqS false | .ne => eqS true | .lt => ltS | .le => leS | .gt => gtS | .ge => geS | .is => isS false | .isnot => isS true | .in_ => inS false | .notin => inS true | .deq => deqS false | .dne => deqS true
def prS : Pr → List W → G → VK3 → Prop
  | .len => lenS | .abs => absS | .str => strS | .max => maxS | .min => minS | .sum => sumS | .all => allS false | .any => allS true | .int => intS | .list => listS | .divmod => divmodS | .sorted => sortedS3 | .dict => dictS
def mtT : Mt → W → G → Prop
  | .append => isLst | .extend => isLst | .pop => isLst | .join => isStr | .split => isStr | .partition => isStr | .index => isLst | .remove => isLst
def mtS : Mt → W → List W → G → VK3 → Prop
  | .append => appendS | .extend => extendS | .pop => popS | .join => joinS | .split => splitS | .partition => partitionS | .index => indexS | .remove => removeS
abbrev CF3 := Nat → List W → G → XK3 → VK3 → Prop
def lcI (tg : T3) (ok : G → Prop) (tt : Sx → G → (Bool → G → Prop) → Prop) (te : Sx → G → VK3 → Prop) (s : Sx) (q : VK3) : List W → List W → G → Prop
  | [], acc, g => ok g ∧ newL g acc q
  | x :: xs, acc, g => ok g ∧ asg tg x s g fun s2 => tt s2 g fun b g3 =>
      if b = true then te s2 g3 fun y g4 => acc.length < sizeLine ∧ lcI tg ok tt te s q xs (acc ++ [y]) g4 else lcI tg ok tt te s q xs acc g3
def forI (tg : T3) (ok : G → Prop) (tb : TS3) (D : Ends3) : List W → Sx → G → Prop
  | [], s, g => ok g ∧ D.nx s g
  | x :: xs, s, g => ok g ∧ asg tg x s g fun s2 => tb { nx := forI tg ok tb D xs, ct := forI tg ok tb D xs, bk := D.nx, rt := D.rt, ex := D.ex } s2 g
def bT (t : TE3) : TT3 := fun x s g q => t x s g fun w g1 => ∃ b, w = .bl b ∧ q b g1
def eIf (tc : TT3) (ta tb : TE3) : TE3 := fun x s g q => tc x s g fun b g1 => if b = true then ta x s g1 q else tb x s g1 q
def eTup (ta : TA3) : TE3 := fun x s g q => ta x s g fun ws g1 => ws.length ≤ sizeLine ∧ q (.tup ws) g1
def eLst (ta : TA3) : TE3 := fun x s g q => ta x s g fun ws g1 => ws.length ≤ sizeLine ∧ newL g1 ws q
def eDic (t : Bool) : TE3 := fun _ _ g q => ∀ p, g p = none → q (.ref p) (gup g p (if t then .dit false [] else .dic false []))
abbrev TO3 := XK3 → Sx → G → (Option Int → G → Prop) → Prop
def eSl (ta : TE3) (tl th : TO3) : TE3 := fun x s g q => ta x s g fun a g1 => tl x s g1 fun lo g2 => th x s g2 fun hi g3 => slS a lo hi g3 q
abbrev TI3 := XK3 → Sx → G → (List W → (G → Prop) → G → Prop) → Prop
def walkS (w : W) (g : G) (r : List W → (G → Prop) → G → Prop) : Prop := match w with
  | .ref a => lstAt g a fun xs => r xs (fun g' => g' a = some (.lst xs)) g
  | .tup xs => r xs (fun _ => True) g
  | .scr xs => r xs (fun _ => True) g
  | .lv xs => r xs (fun _ => True) g
  | _ => False
def walkL (w : W) (g : G) (r : List W → (G → Prop) → G → Prop) : Prop := match w with
  | .ref a => lstAt g a fun xs => r xs (fun g' => g' a = some (.lst xs)) g
  | .scr xs => r xs (fun _ => True) g
  | .lv xs => r xs (fun _ => True) g
  | _ => False
def rngW (lo : Int) (n : Nat) : List W := (List.range n).map fun k => .int (lo + (k : Nat))
def rngDW (lo : Int) (n : Nat) : List W := (List.range n).map fun k => .int (lo + (k : Nat) * (-1))
def small62 (i : Int) : Prop := -(2 ^ 62) ≤ i ∧ i < 2 ^ 62
def enumW (xs : List W) : List W := xs.zipIdx.map fun p => .tup [.int ((p.2 : Nat) : Int), p.1]
def zipW (xs ys : List W) : List W := (xs.zip ys).map fun p => .tup [p.1, p.2]
def revS (w : W) (g : G) (q : VK3) : Prop := match w with
  | .ref a => lstAt g a fun xs => newL g xs.reverse q
  | .scr xs => newL g xs.reverse q
  | .lv xs => newL g xs.reverse q
  | _ => False
def keysS (w : W) (g : G) (r : List W → (G → Prop) → G → Prop) : Prop := match w with
  | .ref a => match g a with
    | some (.dic _ kvs) => r (kvs.map fun p => kW p.1) (fun g' => g' a = some (.dic true kvs)) (gup g a (.dic true kvs))
    | some (.dit _ kvs) => r (kvs.map fun p => ktW p.1) (fun g' => g' a = some (.dit true kvs)) (gup g a (.dit true kvs))
    | _ => False
  | _ => False
def itemsS (w : W) (g : G) (r : List W → (G → Prop) → G → Prop) : Prop := match w with
  | .ref a => match g a with
    | some (.dic _ kvs) => r (kvs.map fun p => .tup [kW p.1, p.2]) (fun g' => g' a = some (.dic true kvs)) (gup g a (.dic true kvs))
    | _ => False
  | _ => False
def lkd (g : G) (a : Addr) : Prop := (∃ kvs, g a = some (.dic true kvs)) ∨ ∃ kvs, g a = some (.dit true kvs)
def unl (g : G) (a : Addr) : G := match g a with
  | some (.dic true kvs) => gup g a (.dic false kvs)
  | some (.dit true kvs) => gup g a (.dit false kvs)
  | _ => g
def un (g0 : G) (P : G → Prop) (g : G) : Prop := P g ∨ ∃ a, ¬ lkd g0 a ∧ lkd g a ∧ P (unl g a)
def unD (g0 : G) (D : Ends3) : Ends3 := { nx := fun s g => un g0 (D.nx s) g, rt := fun v g => un g0 (D.rt v) g, bk := fun s g => un g0 (D.bk s) g, ct := fun s g => un g0 (D.ct s) g, ex := D.ex }
structure Gs where
  v : Nat → W
  su : Option (Addr × Nat × Option Addr)
  ocs : List OC3 := []
def frzS (w : W) (g : G) (q : VK3) : Prop := match w with
  | .ref a => match g a with
    | some (.lst xs) => q (.lv xs) (gdel g a)
    | _ => q w g
  | w => q w g
def frzI (i : Nat) (s : Sx) (g : G) (k : Sx → G → Prop) : Prop := match s[i]? with
  | some (some (.ref a)) => match g a with
    | some (.lst xs) => k (s.set i (some (.lv xs))) (gdel g a)
    | _ => k s g
  | _ => k s g
def attrS (f : Str) (a : W) (g : G) (q : VK3) : Prop := match a with
  | .ref p => match g p with
    | some (.ins _ fs) => match fs.lookup f with
      | some v => q v g
      | none => False
    | _ => False
  | _ => False
def setaS (f : Str) (a v : W) (g : G) (k : G → Prop) : Prop := match a with
  | .ref p => match g p with
    | some (.ins c fs) => fs.length < 1000 ∧ k (gup g p (.ins c (putG f v fs)))
    | _ => False
  | _ => False
def iscS (row : List Bool) (a : W) (g : G) (q : VK3) : Prop := match a with
  | .ref p => match g p with
    | some (.ins c _) => ∃ b, row[c]? = some b ∧ q (.bl b) g
    | _ => False
  | _ => False
def mnum (ocs : List OC3) (c : Nat) (m : Str) : Option Nat := (ocs[c]?).bind fun oc => oc.meths.lookup m
def mcS (ocs : List OC3) (m : Str) (a : W) (g : G) (k : Nat → Prop) : Prop := match a with
  | .ref p => match g p with
    | some (.ins c _) => ∃ f, mnum ocs c m = some f ∧ k f
    | _ => False
  | _ => False
def fmtS (w : W) (g : G) (q : VK3) : Prop := match w with
  | .str y => y.length ≤ sizeLine ∧ q (.str y) g
  | .int i => i.natAbs.log2 < 1920 ∧ q (.str (toString i)) g
  | _ => False
def eIsx (gl : Gs) (i : Nat) (row : List Bool) : TE3 := fun _ s g q => ∃ a c d b, gl.su = some (a, c, d) ∧ s[i]? = some (some (.exc a c d)) ∧ (∀ dd, d = some dd → ∃ fs, g dd = some (.xd fs)) ∧ row[c]? = some b ∧ q (.bl b) g
def anyR : List (Str × List Bool) → Nat → Option Bool
  | [], _ => some false
  | y :: ys, c => match y.2[c]? with
    | none => none
    | some true => some true
    | some false => anyR ys c
def eIsxs (gl : Gs) (i : Nat) (ys : List (Str × List Bool)) : TE3 := fun _ s g q => ∃ a c d b, gl.su = some (a, c, d) ∧ s[i]? = some (some (.exc a c d)) ∧ (∀ dd, d = some dd → ∃ fs, g dd = some (.xd fs)) ∧ anyR ys c = some b ∧ q (.bl b) g
def eXat (gl : Gs) (i : Nat) (f : Str) : TE3 := fun _ s g q => ∃ a c dd fs w, gl.su = some (a, c, some dd) ∧ s[i]? = some (some (.exc a c (some dd))) ∧ g dd = some (.xd fs) ∧ fs.lookup f = some w ∧ q w g
def suR (fs : List (Str × W)) (k : Option Addr → G → Prop) (g : G) : Prop := match fs with
  | [] => k none g
  | f :: fs => ∀ dd, (∀ o, g dd = some o → ∃ l, o = .xd l) → k (some dd) (gup g dd (.xd (f :: fs)))
def unN (nm : Option Nat) (s : Sx) : Sx := match nm with
  | some i => s.set i none
  | none => s
def enN (nm : Option Nat) (a : Addr) (c : Nat) (d : Option Addr) (s : Sx) : Sx := match nm with
  | some i => s.set i (some (.exc a c d))
  | none => s
def suD (nm : Option Nat) (D : Ends3) : Ends3 := { nx := fun s g => D.nx (unN nm s) g, rt := D.rt, bk := fun s g => D.bk (unN nm s) g, ct := fun s g => D.ct (unN nm s) g, ex := fun _ _ _ _ => False }
section
variable (CF : CF3) (gl : Gs)
mutual
def ev : E3 → TE3
  | .var i => eVar i
  | .int i => eC (.int i)
  | .str x => eC (.str x)
  | .bl b => eC (.bl b)
  | .non => eC .non
  | .glob i => eC (gl.v i)
  | .bin o a b => e2 (boS o) (ev a) (ev b)
  | .neg a => e1 negS (ev a)
  | .cmp o a b => e2 (coS o) (ev a) (ev b)
  | .cmp2 o o' a b c => fun x s g q => ev a x s g fun u g1 => ev b x s g1 fun v g2 => coS o u v g2 fun z g3 => ∃ k, z = .bl k ∧ (if k = true then ev c x s g3 fun w g4 => coS o' v w g4 q else q (.bl false) g3)
  | .cmp3 o o' o'' a b c d => fun x s g q => ev a x s g fun u g1 => ev b x s g1 fun v g2 => coS o u v g2 fun z g3 => ∃ k, z = .bl k ∧ (if k = true then ev c x s g3 fun w g4 => coS o' v w g4 fun z2 g5 => ∃ k2, z2 = .bl k2 ∧
      (if k2 = true then ev d x s g5 fun y g6 => coS o'' w y g6 q else q (.bl false) g5) else q (.bl false) g3)
  | .and es => evAnd es
  | .or es => evOr es
  | .not a => fun x s g q => ev a x s g fun u g1 => ∃ b, u = .bl b ∧ q (.bl (!b)) g1
  | .ite c a b => eIf (bT (ev c)) (ev a) (ev b)
  | .lst es => eLst (evs es)
  | .tup es => eTup (evs es)
  | .dic t => eDic t
  | .ix a i => e2 ixS (ev a) (ev i)
  | .sl a lo hi => eSl (ev a) (evo lo) (evo hi)
  | .call f es => fun x s g q => evs es x s g fun ws g1 => CF f ws g1 x q
  | .prim p es => eL (prS p) (evs es)
  | .meth m o es => eM (mtS m) (mtT m) (ev o) (evs es)
  | .isi a T => e1 (isiS T) (ev a)
  | .isx i _ row => eIsx gl i row
  | .isxs i ys => eIsxs gl i ys
  | .lc elt tg it c own => fun x s g q => evi it x s g fun items ok g1 => lcI tg ok (fun s2 g2 k => evc c (fun _ _ _ => False) s2 g2 k) (fun s2 g2 k => ev elt (fun _ _ _ => False) s2 g2 k) (wipe3 s own) q items [] g1
  | .lcK elt tg it c own => fun x s g q => evi it x s g fun items ok g1 => lcI tg ok (fun s2 g2 k => evc c (fun _ _ _ => False) s2 g2 k) (fun s2 g2 k => ev elt (fun _ _ _ => False) s2 g2 k) (wipe3 s own) (fun w g' => un g (q w) g') items [] g1
  | .dget1 o e => fun x s g q => ev o x s g fun a g1 => isDic a g1 ∧ ev e x s g1 fun y g2 => dgetS a y .non g2 q
  | .dget2 o e d => fun x s g q => ev o x s g fun a g1 => isDic a g1 ∧ ev e x s g1 fun y g2 => ev d x s g2 fun z g3 => dgetS a y z g3 q
  | .dsetd o e d => fun x s g q => ev o x s g fun a g1 => isDic a g1 ∧ ev e x s g1 fun y g2 => ev d x s g2 fun z g3 => setdS a y z g3 q
  | .dpop1 o e => fun x s g q => ev o x s g fun a g1 => isDic a g1 ∧ ev e x s g1 fun y g2 => dpopS a y g2 q
  | .dic1 k v => fun x s g q => ∀ p, g p = none → ev k x s (gup g p (.dic false [])) fun y g1 => ev v x s g1 fun z g2 => g2 p = some (.dic false []) ∧ ∃ c, toKey y = some c ∧ q (.ref p) (gup g2 p (.dic false [(c, z)]))
  | .dic2 k v k2 v2 => fun x s g q => ∀ p, g p = none → ev k x s (gup g p (.dic false [])) fun y g1 => ev v x s g1 fun z g2 => ev k2 x s g2 fun y2 g3 => ev v2 x s g3 fun z2 g4 => g4 p = some (.dic false []) ∧ ∃ c c2, toKey y = some c ∧ toKey y2 = some c2 ∧ c ≠ c2 ∧ q (.ref p) (gup g4 p (.dic false [(c, z), (c2, z2)]))
  | .lrev e => fun x s g q => ev e x s g fun w g1 => revS w g1 q
  | .lset e => fun x s g q => ev e x s g fun w g1 => lsetS w g1 q
  | .mxd mn e d => fun x s g q => ev e x s g fun w g1 => ev d x s g1 fun z g2 => mxdS mn w z g2 q
  | .sset e => fun x s g q => ev e x s g fun w g1 => ssetS w g1 q
  | .frz e => fun x s g q => ev e x s g fun w g1 => frzS w g1 q
  | .attr o f => fun x s g q => ev o x s g fun a g1 => attrS f a g1 q
  | .mcall o m es => fun x s g q => ev o x s g fun a g1 => mcS gl.ocs m a g1 fun f => evs es x s g1 fun ws g2 => CF f (a :: ws) g2 x q
  | .new c f es => fun x s g q => evs es x s g fun ws g1 => ∀ p, g1 p = none → CF f (.ref p :: ws) (gup g1 p (.ins c [])) x fun v g2 => v = .non ∧ q (.ref p) g2
  | .fmt e => fun x s g q => ev e x s g fun w g1 => fmtS w g1 q
  | .nev => fun _ _ _ _ => False
  | .ccall _ f _ es => fun x s g q => evs es x s g fun ws g1 => CF f ws g1 x q
  | .isc a _ row => fun x s g q => ev a x s g fun w g1 => iscS row w g1 q
  | .fstr es => fun x s g q => evf es Str.empty x s g q
  | .xattr i f => eXat gl i f
  | .hcall f es => fun x s g q => ∃ a c d, gl.su = some (a, c, d) ∧ evs es x s g fun ws g1 => CF f (.exc a c d :: ws) g1 x q
def evs : Es3 → TA3
  | .nil => aNil
  | .cons e es => aCons (ev e) (evs es)
def evAnd : Es3 → TE3
  | .nil => fun _ _ _ _ => False
  | .cons a .nil => ev a
  | .cons a es => fun x s g q => ev a x s g fun u g1 => ∃ b, u = .bl b ∧ if b = true then evAnd es x s g1 q else q (.bl false) g1
def evOr : Es3 → TE3
  | .nil => fun _ _ _ _ => False
  | .cons a .nil => ev a
  | .cons a es => fun x s g q => ev a x s g fun u g1 => ∃ b, u = .bl b ∧ if b = true then q (.bl true) g1 else evOr es x s g1 q
def evf : Es3 → Str → TE3
  | .nil, acc => fun _ _ g q => q (.str acc) g
  | .cons e es, acc => fun x s g q => ev e x s g fun w g1 => ∃ y, w = .str y ∧ (acc ++ y).length ≤ sizeLine ∧ evf es (acc ++ y) x s g1 q
def evo : O3 → TO3
  | .none => fun _ _ g q => q none g
  | .some e => fun x s g q => ev e x s g fun w g1 => ∃ i, w = .int i ∧ q (some i) g1
def evc : O3 → TT3
  | .none => fun _ _ g q => q true g
  | .some e => bT (ev e)
def evi : I3 → TI3
  | .seq e => fun x s g r => ev e x s g fun w g1 => walkS w g1 r
  | .rng1 a => fun x s g r => ev a x s g fun w g1 => ∃ j, w = .int j ∧ small62 j ∧ r (rngW 0 j.toNat) (fun _ => True) g1
  | .rng2 a b => fun x s g r => ev a x s g fun w g1 => ev b x s g1 fun w' g2 => ∃ i j, w = .int i ∧ w' = .int j ∧ small62 i ∧ small62 j ∧ r (rngW i (j - i).toNat) (fun _ => True) g2
  | .rng3 a b c => fun x s g r => ev a x s g fun w g1 => ev b x s g1 fun w' g2 => ev c x s g2 fun w'' g3 => ∃ i j, w = .int i ∧ w' = .int j ∧ w'' = .int (-1) ∧ small62 i ∧ small62 j ∧ r (rngDW i (i - j).toNat) (fun _ => True) g3
  | .str e => fun x s g r => ev e x s g fun w g1 => ∃ z, w = .str z ∧ r (z.cps.toList.map fun c => .str ⟨#[c]⟩) (fun _ => True) g1
  | .rev e => fun x s g r => ev e x s g fun w g1 => walkS w g1 fun xs ok g2 => r xs.reverse ok g2
  | .enum e => fun x s g r => ev e x s g fun w g1 => walkL w g1 fun xs ok g2 => r (enumW xs) ok g2
  | .keys e => fun x s g r => ev e x s g fun w g1 => keysS w g1 r
  | .items e => fun x s g r => ev e x s g fun w g1 => itemsS w g1 r
  | .zip a b => fun x s g r => ev a x s g fun w g1 => ev b x s g1 fun w' g2 => walkL w g2 fun xs ok _ => walkL w' g2 fun ys ok' _ => r (zipW xs ys) (fun g3 => ok g3 ∧ ok' g3) g2
end
end
section
variable (CF : CF3)
mutual
def sv : Gs → S3 → TS3
  | gl, .expr e => fun D s g => ev CF gl e (D.xk s) s g fun _ g1 => D.nx s g1
  | gl, .ret e => fun D s g => ev CF gl e (D.xk s) s g D.rt
  | gl, .retN => fun D _ g => D.rt .non g
  | gl, .set i e => fun D s g => ev CF gl e (D.xk s) s g fun w g1 => D.nx (s.set i (some w)) g1
  | gl, .setT is e => fun D s g => ev CF gl e (D.xk s) s g fun w g1 => asg (.tup is) w s g1 fun s2 => D.nx s2 g1
  | gl, .par i j a b => fun D s g => ev CF gl a (D.xk s) s g fun w g1 => ev CF gl b (D.xk s) s g1 fun w' g2 => D.nx ((s.set i (some w)).set j (some w')) g2
  | gl, .put o i e => fun D s g => ev CF gl e (D.xk s) s g fun v g1 => ev CF gl o (D.xk s) s g1 fun a g2 => ev CF gl i (D.xk s) s g2 fun y g3 => putS a y v g3 fun g4 => D.nx s g4
  | gl, .ifS c a b => fun D s g => bT (ev CF gl c) (D.xk s) s g fun k g1 => if k = true then svs gl a D s g1 else svs gl b D s g1
  | gl, .for_ tg it body => fun D s g => evi CF gl it (D.xk s) s g fun items ok g1 => forI tg ok (svs gl body) D items s g1
  | gl, .forK tg it body => fun D s g => evi CF gl it (D.xk s) s g fun items ok g1 => forI tg ok (svs gl body) (unD g D) items s g1
  | gl, .while_ c body => fun D s g => ∃ M : Nat → Sx → G → Prop, (∃ m, M m s g) ∧ ∀ m s g, M m s g → bT (ev CF gl c) (D.xk s) s g fun b g1 =>
      if b = true then svs gl body { D with nx := fun s' g' => ∃ m', m' < m ∧ M m' s' g', ct := fun s' g' => ∃ m', m' < m ∧ M m' s' g', bk := D.nx } s g1 else D.nx s g1
  | gl, .brk => fun D s g => D.bk s g
  | gl, .cont => fun D s g => D.ct s g
  | gl, .pass => fun D s g => D.nx s g
  | gl, .raise_ c => fun D s g => D.ex c [] s g
  | gl, .try_ body _ row nm suite els => fun D s g => svs gl body { D with
      nx := svs gl els D
      ex := fun c fs s' g' => ∃ b, row[c]? = some b ∧ if b = true then ∀ a, g' a = none → suR fs (fun d g2 => svs { gl with su := some (a, c, d) } suite (suD nm D) (enN nm a c d s') g2) g' else D.ex c fs s' g' } s g
  | gl, .never => fun _ _ _ => False
  | gl, .seta o f e => fun D s g => ev CF gl e (D.xk s) s g fun v g1 => ev CF gl o (D.xk s) s g1 fun a g2 => setaS f a v g2 fun g3 => D.nx s g3
  | gl, .fz i st => fun D s g => sv gl st { D with nx := fun s' g' => frzI i s' g' D.nx } s g
  | gl, .raiseF c f e => fun D s g => ev CF gl e (D.xk s) s g fun w g1 => D.ex c [(f, w)] s g1
def svs : Gs → Ss3 → TS3
  | gl, .nil => fun D s g => D.nx s g
  | gl, .cons s ss => fun D σ g => sv gl s { D with nx := svs gl ss D } σ g
end
end
structure FD3 where
  name : Str
  gn : Str := name
  glob : Bool := true
  params : List Str
  dflt : List W
  slots : List Str
  body : Ss3
  hot : Bool := false
def rtS (g0 : G) (q : VK3) (w : W) (g : G) : Prop := q w g ∨ (Ext g0 g ∧ q w g0)
def exS (g0 : G) (x : XK3) (c : Nat) (fs : List (Str × W)) (g : G) : Prop := x c fs g ∨ (Ext g0 g ∧ x c fs g0)
def callF (P : List FD3) (gl : Gs) : Nat → CF3
  | 0, _, _, _, _, _ => False
  | n + 1, f, ws, g, x, q => match P[f]? with
    | some d => match d.hot with
      | true => match ws with
        | .exc a c dd :: ws' => ws'.length = d.params.length ∧
          svs (callF P gl n) { gl with su := some (a, c, dd) } d.body { nx := fun _ g1 => rtS g q .non g1, rt := rtS g q, bk := fun _ _ => False, ct := fun _ _ => False, ex := fun _ _ _ _ => False }
            (ws'.map some ++ List.replicate (d.slots.length - d.params.length) none) g
        | _ => False
      | false => (ws ++ d.dflt.drop (d.dflt.length + ws.length - d.params.length)).length = d.params.length ∧
        svs (callF P gl n) gl d.body { nx := fun _ g1 => rtS g q .non g1, rt := rtS g q, bk := fun _ _ => False, ct := fun _ _ => False, ex := fun c fs _ g1 => exS g x c fs g1 }
          ((ws ++ d.dflt.drop (d.dflt.length + ws.length - d.params.length)).map some ++ List.replicate (d.slots.length - d.params.length) none) g
    | none => False
end L3
set_option maxRecDepth 100000
set_option maxHeartbeats 4000000
namespace L3
open PySem PySem.Spec L2 PyProof.Rows PySem.W
def RU (K : PySem.W.Frag) (H : Hp) (v : Value) (x : W) : Prop := ∃ u, RelV u v ∧ RV K H x u
section
variable {X : Cx} {E : Env3} {pins : List (Addr × Obj)} {σ : L2.St} {H : Hp} {s : Shared} {g : G}
theorem each_ru {K : PySem.W.Frag} : ∀ {xs : List W} {ys : List V} {vs : List Value}, RVs K H xs ys → Vals ys vs → PySem.W.EachIs (RU K H) vs xs
  | [], _, _, r, v => by rw [r.nil_inv] at v; cases v; exact .nil
  | x :: xs, _, _, r, v => by
    obtain ⟨u, r', rfl, h1, h2⟩ := r.cons_inv
    cases v with
    | cons a b => exact .cons ⟨u, a, h1⟩ (each_ru h2 b)
theorem ru_each {K : PySem.W.Frag} : ∀ {xs : List W} {vs : List Value}, PySem.W.EachIs (RU K H) vs xs → ∃ ys, RVs K H xs ys ∧ Vals ys vs
  | _, _, .nil => ⟨[], .nil, .nil⟩
  | _, _, .cons ⟨u, a, h1⟩ r => let ⟨ys, q1, q2⟩ := ru_each r; ⟨u :: ys, .cons h1 q1, .cons a q2⟩
theorem ru_reads (I : Inv X pins σ H s) (hK : X.K = E.K) (hg : GR E g H) {x : W} {v : Value} {d : PyData} (h : RU E.K H v x) (r : DW g x d) : ∃ as, Reads s.heap v d as := by
  obtain ⟨u, a, b⟩ := h
  exact Dp.reads I d u v (by rw [hK]; exact dp_of hg r b) a
theorem ru_all (I : Inv X pins σ H s) (hK : X.K = E.K) (hg : GR E g H) {enc : W → PyData} : ∀ {xs : List W} {vs : List Value}, PySem.W.EachIs (RU E.K H) vs xs → (∀ x ∈ xs, DW g x (enc x)) → PySem.W.EachIs (fun v b => ∃ as, Reads s.heap v (enc b) as) vs xs
  | _, _, .nil, _ => .nil
  | _, _, .cons a r, h => .cons (ru_reads I hK hg a (h _ List.mem_cons_self)) (ru_all I hK hg r fun x hx => h x (List.mem_cons_of_mem _ hx))
theorem sort_lst {Q : VK} {q : VK3} (hK : X.K = E.K) (hu : X.A.units + 70 < cLine) (I : Inv X pins σ H s) (hg : GR E g H) {a : Addr} {xs : List W} {ys : List V} (hs : SqL X.K H a ys) (r : RVs E.K H xs ys) (h : sortL xs g q) (kq : KQ E g H q Q) :
    wpAny (model X.prog X.w) X.A (call (.builtin "sorted") [.ref a]) (EP X pins σ Q) X.xe s := by
  obtain ⟨enc, h1, h2, h3, h4, h5⟩ := h
  obtain ⟨its, rv, hl, hz⟩ := I.list hs
  have e := each_ru r rv
  have hlen : xs.length ≤ sizeLine := by rw [← r.length]; exact hz
  refine PySem.W.sorted_data hl.isList e (ru_all I hK hg e h1) h2 h3 hlen (fun b hb => by have := h4 b hb; omega) fun out ho eo => ?_
  obtain ⟨zs, q1, q2⟩ := ru_each eo
  obtain ⟨ep, he'⟩ := PyProof.Rows.sortedAll_at s.heap its out.toArray
  have hl2 : zs.length ≤ sizeLine := by rw [q1.length, List.length_mergeSort]; exact hlen
  exact ⟨.ref _, upd H (s.heap.objs.size + 1) (.lst zs), I.laid (t' := s.toks) (fun _ _ => PyProof.Rows.sortedAll_old) (Nat.le_succ _) ⟨hl2, out, ep, q2, he'⟩, rfl, new_lst hg (I.hok.fresh (Nat.le_succ _)) q1 h5 kq⟩
theorem kw_each {knd : KeyKind X.prog X.w Key} (hk : ∀ {k : Key} {v : Value}, knd.is k v = true → RelV (kV k) v) : ∀ {ks : List Key} {vs : List Value}, ks.length = vs.length → (∀ (j : Nat) (v : Value), vs[j]? = some v → ∃ k, ks[j]? = some k ∧ knd.is k v = true) → PySem.W.EachIs (RU E.K H) vs (ks.map kW)
  | [], [], _, _ => .nil
  | k :: ks, v :: vs, n, h => by
    obtain ⟨k', e1, e2⟩ := h 0 v rfl
    cases e1
    refine .cons ⟨kV k, hk e2, by cases k <;> simp [kW, kV, RV]⟩ (kw_each hk (by simpa using n) fun j v e => ?_)
    obtain ⟨k', e1, e2⟩ := h (j + 1) v (by simpa using e)
    exact ⟨k', by simpa using e1, e2⟩
  | [], _ :: _, n, _ => by simp at n
  | _ :: _, [], n, _ => by simp at n
theorem sort_dic {Q : VK} {q : VK3} (hK : X.K = E.K) (hc : X.calm = true) (hu : X.A.units + 70 < cLine) (I : Inv X pins σ H s) (hg : GR E g H) {a : Addr} {kvs : List (Key × W)} {l : List (Key × V)} (hd : Rd H a (.dK l)) (hks : kvs.map (·.1) = l.map (·.1))
    (h : sortL (kvs.map fun p => kW p.1) g q) (kq : KQ E g H q Q) :
    wpAny (model X.prog X.w) X.A (call (.builtin "sorted") [.ref a]) (EP X pins σ Q) X.xe s := by
  obtain ⟨enc, h1, h2, h3, h4, h5⟩ := h
  obtain ⟨z, lo, vs, rel, dd⟩ := dk_rd I.hok hd
  obtain ⟨ep, hat⟩ := dd.dictAt
  have hkeys : vs.map (·.1) = kvs.map (·.1) := rel.keys.symm.trans hks.symm
  have hl : vs.length = kvs.length := by simpa using congrArg List.length hkeys
  have h16 : vs.length ≤ sizeLine := by rw [← rel.length]; exact z
  refine Calls.call_function_entry PyProof.Rows.kind_sorted PyProof.Rows.plain_sorted PyProof.Rows.entry_sorted (PyProof.Rows.args_sorted1 _) ?_
  unfold Builtin.«sorted»
  refine wpAny_bind (m := checkCount "sorted" 1 1 _) (wpAny_pure ?_)
  refine wpAny_bind (PySem.W.kdu_collect (A := X.A.in1) (PySem.W.kdl_dict (knd := mixKind X.prog X.w) (kvs := vs) (ep := ep) lo) (I.ok.hd hc) hat h16 fun h' tk acc hk hacc => ?_)
  have hal : acc.toList.length = kvs.length := by rw [Array.length_toList, hacc.1, hl]
  have I1 : Inv X pins σ H { s with heap := h', toks := tk } := I.kept hk
  have eE : PySem.W.EachIs (RU E.K H) acc.toList (kvs.map fun p => kW p.1) := by
    have e1 : (kvs.map fun p => kW p.1) = (kvs.map (·.1)).map kW := by simp [Function.comp_def]
    rw [e1]
    refine kw_each (knd := mixKind X.prog X.w) (fun {k v} e => ?_) (by rw [List.length_map, hal]) fun j v e => ?_
    · rcases keyIs_shape e with ⟨i, t, ek, ev⟩ | ⟨z, t, ek, ev⟩
      · subst ek; exact ⟨t, ev⟩
      · subst ek; exact ⟨t, ev⟩
    · obtain ⟨k, x, f1, f2⟩ := hacc.2 j v (by rw [← Array.getElem?_toList]; exact e)
      have e3 : (vs.map (·.1))[j]? = some k := by rw [List.getElem?_map, f1]; all_goals rfl
      rw [hkeys] at e3
      exact ⟨k, e3, f2⟩
  refine wpAny_bind (wpAny_newList ?_ (by rw [hal, ← hl]; exact h16))
  have hoL : (h'.push (seqObj "list" acc.toList.toArray 0)).get? h'.objs.size = some (seqObj "list" acc.toList.toArray 0) := Heap.get?_push_size _ rfl
  show wpAny _ _ _ _ _ { s with heap := h'.push (seqObj "list" acc.toList.toArray 0), toks := tk }
  have er : PySem.W.EachIs (fun v b => ∃ as, Reads (sortingHeap (h'.push (seqObj "list" acc.toList.toArray 0)) h'.objs.size acc.toList) v (enc b) as) acc.toList (kvs.map fun p => kW p.1) :=
    (ru_all I1 hK hg eE h1).mono fun _ _ ⟨as, r⟩ => ⟨as, PyProof.Rows.Reads.keeps (fun b o e => by
      have hb : b < h'.objs.size := Heap.lt_size e
      exact sortingHeap_old (Nat.ne_of_lt hb) (Heap.get?_push_of_some _ e)) r⟩
  have S : PySem.W.SortsAt X.prog X.w X.A.in1.in1 { s with heap := sortingHeap (h'.push (seqObj "list" acc.toList.toArray 0)) h'.objs.size acc.toList, toks := tk } (PySem.W.dataKind (sortingHeap (h'.push (seqObj "list" acc.toList.toArray 0)) h'.objs.size acc.toList) ((kvs.map fun p => kW p.1).map enc)) acc.toList :=
    PySem.W.SortsAt.data (PySem.W.each_map (R := fun v d => ∃ as, Reads _ v d as) enc er) h2 h3 fun d hd => by
      obtain ⟨b, hb, rfl⟩ := List.mem_map.mp hd
      have := h4 b hb
      show X.A.units + 1 + 1 + _ < cLine
      omega
  have eo := PySem.W.sortVals_data false eE er h2
  obtain ⟨zs, q1, q2⟩ := ru_each eo
  have lz : zs.length ≤ sizeLine := by rw [q1.length, List.length_mergeSort, List.length_map, ← hl]; exact h16
  refine wpAny_bind (wpAny_holding (wpAny_call_entry PyProof.Rows.slot_list_sort ⟨_, hoL, rfl⟩ PyProof.Rows.entry_list_sort
    (PySem.W.list_sort_vals (s := { s with heap := h'.push (seqObj "list" acc.toList.toArray 0), toks := tk }) hoL S (by rw [hal, ← hl]; exact h16) ⟨_, rfl, ?_⟩)
    (PyProof.Rows.args_list_sort _)))
  obtain ⟨e', he'⟩ := PyProof.Rows.sortedHeap_at (vs := acc.toList) (out := (PySem.W.sortVals (PySem.W.dataKind (sortingHeap (h'.push (seqObj "list" acc.toList.toArray 0)) h'.objs.size acc.toList) ((kvs.map fun p => kW p.1).map enc)) false acc.toList acc.toList).toArray) hoL
  refine wpAny_pure ⟨_, rfl, .ref h'.objs.size, upd H h'.objs.size (.lst zs), I1.laid (t' := tk) (fun b u e => ?_) (Nat.le_refl _)
    (show ObjOk X.prog X.w _ _ _ (.lst zs) from ⟨lz, _, e', q2, he'⟩), rfl, new_lst hg (I1.hok.fresh (Nat.le_refl _)) q1 h5 kq⟩
  have hb : b < h'.objs.size := Heap.lt_size e
  rw [PyProof.Rows.sortedHeap_old (Nat.ne_of_lt hb) (by rw [size_push']; exact Nat.lt_succ_of_lt hb)]
  exact Heap.get?_push_of_some _ e
theorem rvs_kWk {K : PySem.W.Frag} {H : Hp} : ∀ ks : List Key, RVs K H (ks.map kW) (ks.map kV)
  | [] => .nil
  | k :: ks => .cons (by cases k <;> simp [kW, kV, RV]) (rvs_kWk ks)
theorem kt_each {K : PySem.W.Frag} {H : Hp} {l : List (List Key × V)} {bs : List Addr} (h : IsKeys H l bs) : ∀ {kvs : List (List Key × W)}, kvs.map (·.1) = l.map (·.1) → PySem.W.EachIs (RU K H) (bs.map Value.ref) (kvs.map fun p => ktW p.1) := by
  unfold IsKeys at h
  induction h with
  | nil => intro kvs e; rw [List.map_eq_nil_iff.mp e]; exact .nil
  | @cons p b _ _ hb _ ih =>
    intro kvs e
    cases kvs with
    | nil => cases e
    | cons q kvs =>
      injection e with e1 e2
      refine .cons ⟨.ref b, rfl, ?_⟩ (ih e2)
      have e1 : q.1 = p.1 := e1
      show RV K H (ktW q.1) (.ref b)
      rw [e1]
      exact rv_tup hb (rvs_kWk _)
theorem sort_dit {Q : VK} {q : VK3} (hK : X.K = E.K) (hc : X.calm = true) (hu : X.A.units + 70 < cLine) (I : Inv X pins σ H s) (hg : GR E g H) {a : Addr} {kvs : List (List Key × W)} {l : List (List Key × V)} (hd : Rd H a (.dT l)) (hks : kvs.map (·.1) = l.map (·.1))
    (h : sortL (kvs.map fun p => ktW p.1) g q) (kq : KQ E g H q Q) :
    wpAny (model X.prog X.w) X.A (call (.builtin "sorted") [.ref a]) (EP X pins σ Q) X.xe s := by
  obtain ⟨enc, h1, h2, h3, h4, h5⟩ := h
  obtain ⟨z, lo, ks, pr, o, es, ep, ho, hx, hdt, he, hn⟩ := (show ObjOk X.prog X.w H s.heap a (.dT l) from hd.ok I.hok)
  have l1 : es.size = ks.length := size_of_entries he
  have l2 : l.length = ks.length := Paired.length pr
  have l3 : kvs.length = l.length := by simpa using congrArg List.length hks
  have h16 : es.size ≤ sizeLine := by omega
  refine Calls.call_function_entry PyProof.Rows.kind_sorted PyProof.Rows.plain_sorted PyProof.Rows.entry_sorted (PyProof.Rows.args_sorted1 _) ?_
  unfold Builtin.«sorted»
  refine wpAny_bind (m := checkCount "sorted" 1 1 _) (wpAny_pure ?_)
  refine wpAny_bind (PySem.W.kdu_collect (A := X.A.in1) (kdl_raw lo hx hdt) (I.ok.hd hc) ho h16 fun h' tk acc hk hacc => ?_)
  have hal : acc.toList.length = kvs.length := by rw [Array.length_toList, hacc.1]; omega
  have I1 : Inv X pins σ H { s with heap := h', toks := tk } := I.kept hk
  have ea : acc.toList = (ks.map fun x => x.2.1).map Value.ref := by
    rw [List.map_map]
    refine List.ext_getElem? fun j => ?_
    rw [List.getElem?_map]
    cases hj : acc.toList[j]? with
    | none =>
      have := List.getElem?_eq_none_iff.mp hj
      rw [List.getElem?_eq_none (by omega)]
      all_goals rfl
    | some v =>
      obtain ⟨en, hen, hv⟩ := hacc.2 j v (by rw [← Array.getElem?_toList]; exact hj)
      have qe := entry_at he j
      rw [hen] at qe
      cases hb : ks[j]? with
      | none => rw [hb] at qe; exact nomatch (show some en = none from qe)
      | some b =>
        rw [hb] at qe
        have e2 : en = entryOfKey (tupleKind (mixKind X.prog X.w)) b := Option.some.inj qe
        rw [hv, e2]
        all_goals rfl
  have eE : PySem.W.EachIs (RU E.K H) acc.toList (kvs.map fun p => ktW p.1) := by
    rw [ea]
    exact kt_each (isKeys_of pr) hks
  refine wpAny_bind (wpAny_newList ?_ (by rw [hal]; omega))
  have hoL : (h'.push (seqObj "list" acc.toList.toArray 0)).get? h'.objs.size = some (seqObj "list" acc.toList.toArray 0) := Heap.get?_push_size _ rfl
  show wpAny _ _ _ _ _ { s with heap := h'.push (seqObj "list" acc.toList.toArray 0), toks := tk }
  have er : PySem.W.EachIs (fun v b => ∃ as, Reads (sortingHeap (h'.push (seqObj "list" acc.toList.toArray 0)) h'.objs.size acc.toList) v (enc b) as) acc.toList (kvs.map fun p => ktW p.1) :=
    (ru_all I1 hK hg eE h1).mono fun _ _ ⟨as, r⟩ => ⟨as, PyProof.Rows.Reads.keeps (fun b o e => by
      have hb : b < h'.objs.size := Heap.lt_size e
      exact sortingHeap_old (Nat.ne_of_lt hb) (Heap.get?_push_of_some _ e)) r⟩
  have S : PySem.W.SortsAt X.prog X.w X.A.in1.in1 { s with heap := sortingHeap (h'.push (seqObj "list" acc.toList.toArray 0)) h'.objs.size acc.toList, toks := tk } (PySem.W.dataKind (sortingHeap (h'.push (seqObj "list" acc.toList.toArray 0)) h'.objs.size acc.toList) ((kvs.map fun p => ktW p.1).map enc)) acc.toList :=
    PySem.W.SortsAt.data (PySem.W.each_map (R := fun v d => ∃ as, Reads _ v d as) enc er) h2 h3 fun d hd => by
      obtain ⟨b, hb, rfl⟩ := List.mem_map.mp hd
      have := h4 b hb
      show X.A.units + 1 + 1 + _ < cLine
      omega
  have eo := PySem.W.sortVals_data false eE er h2
  obtain ⟨zs, q1, q2⟩ := ru_each eo
  have lz : zs.length ≤ sizeLine := by rw [q1.length, List.length_mergeSort, List.length_map]; omega
  refine wpAny_bind (wpAny_holding (wpAny_call_entry PyProof.Rows.slot_list_sort ⟨_, hoL, rfl⟩ PyProof.Rows.entry_list_sort
    (PySem.W.list_sort_vals (s := { s with heap := h'.push (seqObj "list" acc.toList.toArray 0), toks := tk }) hoL S (by rw [hal]; omega) ⟨_, rfl, ?_⟩)
    (PyProof.Rows.args_list_sort _)))
  obtain ⟨e', he'⟩ := PyProof.Rows.sortedHeap_at (vs := acc.toList) (out := (PySem.W.sortVals (PySem.W.dataKind (sortingHeap (h'.push (seqObj "list" acc.toList.toArray 0)) h'.objs.size acc.toList) ((kvs.map fun p => ktW p.1).map enc)) false acc.toList acc.toList).toArray) hoL
  refine wpAny_pure ⟨_, rfl, .ref h'.objs.size, upd H h'.objs.size (.lst zs), I1.laid (t' := tk) (fun b u e => ?_) (Nat.le_refl _)
    (show ObjOk X.prog X.w _ _ _ (.lst zs) from ⟨lz, _, e', q2, he'⟩), rfl, new_lst hg (I1.hok.fresh (Nat.le_refl _)) q1 h5 kq⟩
  have hb : b < h'.objs.size := Heap.lt_size e
  rw [PyProof.Rows.sortedHeap_old (Nat.ne_of_lt hb) (by rw [size_push']; exact Nat.lt_succ_of_lt hb)]
  exact Heap.get?_push_of_some _ e
theorem l_sorted (hK : X.K = E.K) (hc : X.calm = true) (hu : X.A.units + 70 < cLine) : CallR X (.builtin "sorted") (liftL E sortedS3) := by
  intro pins s σ H vs us Q I r ⟨ws, g, q, hw, hg, h, kq⟩
  unfold sortedS3 at h
  split at h
  · rename_i a
    obtain ⟨v, rfl, hv⟩ := rvs1 hw
    simp only [RV] at hv; subst hv
    rw [Vals.ref1 r]
    split at h
    · rename_i xs eg
      obtain ⟨ys, f1, r1⟩ := hg _ _ eg
      exact sort_lst hK hu I hg (SqL.of f1) r1 h kq
    · rename_i lk kvs eg
      obtain ⟨l, hd, e1, e2⟩ := hg _ _ eg
      exact sort_dic hK hc hu I hg hd.rd e1 h kq
    · rename_i lk kvs eg
      obtain ⟨l, hd, e1, e2⟩ := hg _ _ eg
      exact sort_dit hK hc hu I hg hd.rd e1 h kq
    · exact h.elim
  · rename_i xs
    obtain ⟨v, rfl, hv⟩ := rvs1 hw
    obtain ⟨p, ys, rfl, ht, hr⟩ := rv_scr_inv hv
    rw [Vals.ref1 r]
    exact sort_lst hK hu I hg (by rw [hK]; exact ht.sq) hr h kq
  · rename_i xs
    obtain ⟨v, rfl, hv⟩ := rvs1 hw
    obtain ⟨p, ys, rfl, ht, hr⟩ := rv_lv_inv hv
    rw [Vals.ref1 r]
    exact sort_lst hK hu I hg (by rw [hK]; exact ht.sq) hr h kq
  · exact h.elim
theorem l_dict : CallR X (.type "dict") (liftL E dictS) := by
  intro pins s σ H vs us Q I r ⟨ws, g, q, hw, hg, h, kq⟩
  unfold dictS at h
  split at h
  · rename_i a
    obtain ⟨v, rfl, hv⟩ := rvs1 hw
    simp only [RV] at hv; subst hv
    split at h
    · rename_i lk kvs eg
      obtain ⟨l, hd, e1, e2⟩ := hg _ _ eg
      exact call_dictD pins s σ H _ us Q I r ⟨a, l, rfl, hd.rd, fun p np => kq _ _ _ _ (hg.new (o := .dic false kvs) np ⟨l, upd_same, e1, e2.keep (TK.new np)⟩) rv_ref (FK.new np) (h p (hg.free np))⟩
    · exact h.elim
  · exact h.elim
theorem l_index : MtR X "list.index" (liftM E indexS) := by
  intro pins s σ H x vs v us Q I rx r ⟨a, ws, g, q, ha, hw, hg, h, kq⟩
  have core : ∀ {p : Addr} {xs : List W} {ys : List V} {y : W}, x = .ref p → ws = [y] → SqL X.K H p ys → RVs E.K H xs ys → (flatW y = true ∧ xs.all flatW = true ∧ ∃ (j : Nat) (z : W), xs[j]? = some z ∧ eqW z y = true ∧ (∀ (m : Nat) (z' : W), m < j → xs[m]? = some z' → eqW z' y = false) ∧ q (.int (j : Nat)) g) →
      wpAny (model X.prog X.w) X.A (call (.builtin "list.index") (v :: us)) (EP X pins σ Q) X.xe s := by
    intro p xs ys y e0 e00 sq r1 h9
    subst e0
    rw [e00] at hw
    clear h
    obtain ⟨u, rfl, hy⟩ := rvs1 hw
    obtain ⟨f1, f2, j, z, k1, k2, k3, h⟩ := h9
    obtain ⟨zv, l1, l2⟩ := r1.get k1
    have fl := flats_rel r1 f2
    have fz : ∀ {i : Nat} {z : W}, xs[i]? = some z → flatW z = true := fun e => List.all_eq_true.mp f2 _ (List.mem_of_getElem? e)
    refine mt_index pins s σ H _ _ v us Q I rx r ⟨p, ys, u, j, zv, rfl, rfl, sq, flat_rel hy f1, fl, l1, (eq_rel l2 (fz k1) hy f1).trans k2, fun m z' hm e => ?_, kq _ g _ H hg rv_int FK.refl h⟩
    have hlt : m < xs.length := by
      have := (List.getElem?_eq_some_iff.mp e).1
      rw [r1.length] at this
      exact this
    obtain ⟨zv', l1', l2'⟩ := r1.get (List.getElem?_eq_getElem hlt)
    rw [e] at l1'
    cases l1'
    exact (eq_rel l2' (fz (List.getElem?_eq_getElem hlt)) hy f1).trans (k3 m _ hm (List.getElem?_eq_getElem hlt))
  unfold indexS at h
  split at h
  · rename_i p y
    simp only [RV] at ha; subst ha
    obtain ⟨xs, eg, h⟩ := lstAt_inv h
    obtain ⟨ys, e1, r1⟩ := hg _ _ eg
    exact core rfl rfl (SqL.of e1) r1 h
  · rename_i xs y
    obtain ⟨p, ys, rfl, ⟨o, e⟩, hr⟩ := rv_lv_fr ha
    exact core rfl rfl (.inl (.inr ⟨o, e⟩)) hr h
  · exact h.elim
theorem each_at {α β : Type} {R : α → β → Prop} : ∀ {vs : List α} {bs : List β}, PySem.W.EachIs R vs bs → ∀ {i : Nat} {v : α}, vs[i]? = some v → ∃ b, bs[i]? = some b ∧ R v b
  | _, _, .nil, _, _, h => by simp at h
  | _, _, .cons a r, 0, _, h => by simp at h; subst h; exact ⟨_, rfl, a⟩
  | _, _, .cons a r, i + 1, _, h => by
    obtain ⟨b, h1, h2⟩ := each_at r (i := i) (by simpa using h)
    exact ⟨b, by simpa using h1, h2⟩
theorem rvs_erase {K : PySem.W.Frag} {H : Hp} : ∀ {xs : List W} {ys : List V} {j : Nat}, RVs K H xs ys → RVs K H (xs.eraseIdx j) (ys.eraseIdx j)
  | [], _, _, r => by rw [r.nil_inv]; exact .nil
  | x :: xs, _, 0, r => by obtain ⟨u, r', rfl, h1, h2⟩ := r.cons_inv; exact h2
  | x :: xs, _, j + 1, r => by obtain ⟨u, r', rfl, h1, h2⟩ := r.cons_inv; exact .cons h1 (rvs_erase h2)
theorem vals_erase : ∀ {xs : List V} {us : List Value} {j : Nat}, Vals xs us → Vals (xs.eraseIdx j) (us.eraseIdx j)
  | _, _, _, .nil => .nil
  | _, _, 0, .cons r t => t
  | _, _, j + 1, .cons r t => .cons r (vals_erase t)
theorem l_min (hK : X.K = E.K) (hc : X.calm = true) (hu : X.A.units + 70 < cLine) : CallR X (.builtin "min") (liftL E minS) := by
  intro pins s σ H vs us Q I r ⟨ws, g, q, hw, hg, h, kq⟩
  unfold minS at h
  split at h
  · rename_i a
    obtain ⟨v, rfl, hv⟩ := rvs1 hw
    simp only [RV] at hv; subst hv
    obtain ⟨xs, eg, h⟩ := lstAt_inv h
    obtain ⟨ys, f1, r1⟩ := hg _ _ eg
    rcases h with ⟨ns, rfl, hn, h⟩ | ⟨enc, y, zs, rfl, h1, h2, h3, h4⟩
    · have e := r1.ints
      subst e
      exact cr_min hc pins s σ H _ us Q I r ⟨a, ns, rfl, SqL.of f1, hn, fun m h1 h2 => kq _ g _ H hg rv_int FK.refl (h m h1 h2)⟩
    · rw [Vals.ref1 r]
      obtain ⟨its, rv, hl, hz⟩ := I.list (SqL.of f1)
      have e := each_ru r1 rv
      obtain ⟨as, ra⟩ := PySem.W.each_readsAll enc (ru_all I hK hg e h1)
      refine PySem.W.min_list_data (x := enc y) (xs := zs.map enc) (as := as) (I.ok.hd hc) hl.isList ra h2 (by have : PyData.depthAll (enc y :: zs.map enc) ≤ 64 := h3; omega) fun i v h' tk bs hi hr hk => ?_
      obtain ⟨z, z1, u, z2, z3⟩ := each_at e (i := i) (v := v) (by rw [← Array.getElem?_toList] at hi; exact hi)
      have hz2 := List.mem_of_getElem? z1
      have I1 : Inv X pins σ H { s with heap := h', toks := tk } := I.kept hk
      obtain ⟨as2, rz⟩ := ru_reads I1 hK hg ⟨u, z2, z3⟩ (h1 z hz2)
      exact ⟨u, H, I1, z2, kq _ g _ H hg z3 FK.refl (h4 z hz2 (PySem.Reads.unique rz _ _ hr).1)⟩
  · rename_i xs
    obtain ⟨v, rfl, hv⟩ := rvs1 hw
    obtain ⟨ns, rfl, hn, h⟩ := h
    obtain ⟨p, ys, rfl, ht, hr⟩ := rv_lv_inv hv
    have e := hr.ints
    subst e
    exact cr_min hc pins s σ H _ us Q I r ⟨p, ns, rfl, by rw [hK]; exact ht.sq, hn, fun m h1 h2 => kq _ g _ H hg rv_int FK.refl (h m h1 h2)⟩
  · exact l_min2 hc pins s σ H vs us Q I r ⟨_, g, q, hw, hg, h, kq⟩
theorem l_remove (hK : X.K = E.K) (hu : X.A.units + 70 < cLine) : MtR X "list.remove" (liftM E removeS) := by
  intro pins s σ H x vs v us Q I rx r ⟨a, ws, g, q, ha, hw, hg, h, kq⟩
  unfold removeS at h
  split at h
  · rename_i p y
    simp only [RV] at ha; subst ha
    obtain ⟨u, rfl, hy⟩ := rvs1 hw
    obtain ⟨xs, eg, enc, d, j, h1, h2, h3, h4, h5, h6, h⟩ := lstAt_inv h
    obtain ⟨ys, f1, r1⟩ := hg _ _ eg
    cases rx
    obtain ⟨u', rfl, ru⟩ := r.one
    obtain ⟨z, its, n, rv, hl, e⟩ := I.lstM f1
    have e1 := each_ru r1 rv
    obtain ⟨as, ra⟩ := PySem.W.each_readsAll enc (ru_all I hK hg e1 h1)
    obtain ⟨bs, rd⟩ := ru_reads I hK hg ⟨u, ru, hy⟩ h2
    have t : TK H (upd H p (.lst (ys.eraseIdx j))) := hg.tk eg
    refine PySem.SeqAt.remove_list_data (l := p) (vs := its.toArray) ⟨_, e, rfl, _, rfl⟩ ra rd h3 h4 (by omega) h6 (by rw [List.size_toArray]; omega) ?_
    exact ⟨.non, _, I.lset (its' := its.eraseIdx j) f1 e (by simp) (vals_erase rv) (Nat.le_trans (List.length_eraseIdx_le _ _) z), rfl, kq _ _ _ _ (hg.wr (o' := .lst (xs.eraseIdx j)) eg ⟨_, upd_same, rvs_erase (r1.keep t)⟩) rv_non (FK.wr eg f1 (fun _ _ z => nomatch z)) h⟩
  · exact h.elim
end
end L3
set_option maxRecDepth 100000
set_option maxHeartbeats 4000000
namespace L3
open PySem PySem.Spec PyProof.Rows L2
section
variable {P : Program} {w : World}
def kOf : Value → Key
  | .int k _ => .inl k
  | .str x _ => .inr x
  | _ => .inl 0
theorem kOf_is {k : Key} {v : Value} (h : (mixKind P w).is k v = true) : kOf v = k := by
  rcases keyIs_shape h with ⟨i, t, e1, e2⟩ | ⟨x, t, e1, e2⟩ <;> (subst e1 e2; rfl)
theorem scan_is {k : Key} {v : Value} (h : (mixKind P w).is k v = true) : v.scannable = true := by
  rcases keyIs_shape h with ⟨i, t, e1, e2⟩ | ⟨x, t, e1, e2⟩ <;> (subst e1 e2; rfl)
structure SetM (P : Program) (w : World) (h : Heap) (a : Addr) (ks : List Key) : Prop where
  nd : ks.Nodup
  at_ : ∃ o es ep t, h.get? a = some o ∧ o.ExactSet ∧ o.data = .set es ep t ∧ ElemsOf (mixKind P w) es.toList ∧ (es.toList.map fun e => kOf e.2).Perm ks ∧ es.size < scanBound ∧ t.fits es.size = true ∧ Ris t.place.toList ∧ (w.params.followText "set-order" = true ∨ t.led = true)
theorem SetM.keep {h h' : Heap} {a : Addr} {ks : List Key} (R : SetM P w h a ks) (k : ∀ o, h.get? a = some o → h'.get? a = some o) : SetM P w h' a ks :=
  ⟨R.nd, let ⟨o, es, ep, t, ho, r⟩ := R.at_; ⟨o, es, ep, t, k o ho, r⟩⟩
theorem elem_key {l : List (Int × Value)} (g : ElemsOf (mixKind P w) l) (k : Key) : k ∈ (l.map fun e => kOf e.2) ↔ ∃ e ∈ l, (mixKind P w).is k e.2 = true := by
  rw [List.mem_map]
  refine ⟨fun ⟨e, he, q⟩ => ?_, fun ⟨e, he, q⟩ => ⟨e, he, kOf_is q⟩⟩
  obtain ⟨⟨k0, h0, _⟩, _⟩ := g e he
  have := kOf_is h0
  rw [q] at this
  subst this
  exact ⟨e, he, h0⟩
end
section
variable {P : Program} {w : World} {A : Around} {E : Value → Shared → Prop} {s : Shared} {a : Addr} {ks : List Key}
theorem grow_end {g : Bool → Sem Unit} (hg : ∀ (b : Bool) (u : Shared) (q : Unit → Shared → Prop), q () u → wpAny (model P w) A (g b) q E u)
    {o : Obj} {es : Array (Int × Value)} {ep : Nat} {t : SetTable} (ho : s.heap.get? a = some o) (hx : o.ExactSet) (hd : o.data = .set es ep t)
    {fs : Array (Int × Value)} {t2 : SetTable} (nd : ks.Nodup) (el : ElemsOf (mixKind P w) fs.toList) (pm : (fs.toList.map fun e => kOf e.2).Perm ks)
    (room : fs.size < scanBound) (fit : t2.fits fs.size = true) (ris : Ris t2.place.toList) (led : w.params.followText "set-order" = true ∨ t2.led = true) {dum : Bool} {R : Option Bool → Shared → Prop}
    (fin : ∀ h', Heap.SameBut a s.heap h' → SetM P w h' a ks → R (some true) { s with heap := h' }) :
    wpAny (model P w) A (do
        storeSet a fs t2
        if (!dum && t2.tooFull) = true then do
            g (relayAll t2 fs (SetTable.grown fs.size)).2.2
            storeSet a (relayAll t2 fs (SetTable.grown fs.size)).1 (relayAll t2 fs (SetTable.grown fs.size)).2.1
            pure (some true)
          else pure (some true)) R E s := by
  have at1 := store_at (es' := fs) (t' := t2) ho hd
  have sb := Heap.SameBut.update s.heap a (Obj.putSet fs t2)
  refine wpAny_bind (wpAny_storeSet_of ho hd ?_ (fits_of_scanBound room))
  by_cases full : (!dum && t2.tooFull) = true
  · rw [if_pos full]
    have p2 := relayAll_perm t2 fs (SetTable.grown fs.size)
    have f2 := relayAll_fits t2 fs (SetTable.grown fs.size)
    have r2 := relayAll_ris t2 fs (SetTable.grown fs.size)
    have l2 := relayAll_led t2 fs (SetTable.grown fs.size)
    generalize relayAll t2 fs (SetTable.grown fs.size) = Y at p2 f2 r2 l2 ⊢
    obtain ⟨gs, t3, gv⟩ := Y
    simp only at p2 f2 r2 l2 ⊢
    have sz : gs.size = fs.size := by rw [← Array.length_toList, p2.length_eq, Array.length_toList]
    have room2 : gs.size < scanBound := sz ▸ room
    refine wpAny_bind (hg _ _ _ (wpAny_bind (wpAny_storeSet_of at1 rfl ?_ (fits_of_scanBound room2))))
    have at2 := store_at (es' := gs) (t' := t3) at1 rfl
    exact wpAny_pure (fin _ (sb.trans (Heap.SameBut.update _ a _)) ⟨nd, _, gs, _, t3, at2, hx, rfl, fun e he => el e (p2.mem_iff.mp he), (p2.map _).trans pm, room2, f2, r2, led.imp id fun z => l2.trans z⟩)
  · rw [if_neg full]
    exact wpAny_pure (fin _ sb ⟨nd, _, fs, _, t2, at1, hx, rfl, el, pm, room, fit, ris, led⟩)
theorem setM_add {k : Key} {v : Value} {Q : Bool → Shared → Prop} (hk : (mixKind P w).is k v = true) (R : SetM P w s.heap a ks) (room : ks.length + 1 < scanBound)
    (hQ : ∀ (b : Bool) (h' : Heap) (ms : List Key), Heap.SameBut a s.heap h' → SetM P w h' a ms → ((ms = ks ∧ k ∈ ks) ∨ (ms = k :: ks ∧ k ∉ ks)) → Q b { s with heap := h' }) :
    wpAny (model P w) A (setAddHashed a v ((mixKind P w).hash k)) Q E s := by
  have hsc := scan_is hk
  obtain ⟨nd, o, es, ep, t, ho, hx, hd, el, pm, small, fit, ris, led⟩ := id R
  have hn : es.size = ks.length := by rw [← pm.length_eq, List.length_map, Array.length_toList]
  unfold setAddHashed setAddHashedIn
  refine wpAny_holding (wpAny_bind (wpAny_setState_of ho hd fit ?_))
  simp only
  rw [byScan_of hsc small el]
  rw [if_pos rfl]
  unfold setAddByScan
  refine wpAny_bind (wpAny_bind (wpAny_rule (wpAny_bind (wpAny_setScan_of hk ho hd fit el ?_))))
  cases found : List.findIdx? (fun e => (mixKind P w).is k e.2) es.toList with
  | some j =>
    simp only
    obtain ⟨hj, pj, _⟩ := List.findIdx?_eq_some_iff_getElem.mp found
    have inn : k ∈ ks := pm.mem_iff.mp ((elem_key el k).mpr ⟨_, List.getElem_mem hj, pj⟩)
    exact wpAny_pure (wpAny_pure (hQ false s.heap ks (Heap.SameBut.refl a s.heap) R (.inl ⟨rfl, inn⟩)))
  | none =>
    simp only
    have out : k ∉ ks := fun z => by
      obtain ⟨e, he, q⟩ := (elem_key el k).mp (pm.mem_iff.mpr z)
      have c := List.findIdx?_eq_none_iff.mp found e he
      rw [q] at c; cases c
    have gw : ∀ (b : Bool) {u : Shared} {q : Unit → Shared → Prop}, q () u → wpAny (model P w) A (match b with | true => rule "set.scan.the-table-gave-way" | false => pure ()) q E u := fun b u q z => by
      cases b
      · exact wpAny_pure z
      · exact wpAny_rule z
    have p1 := layNew_perm t es ((mixKind P w).hash k) v
    have f1 := layNew_fits t es ((mixKind P w).hash k) v
    have r1 := layNew_ris t es ((mixKind P w).hash k) v ris
    have l1 := layNew_led t es ((mixKind P w).hash k) v
    generalize layNew t es ((mixKind P w).hash k) v = Y at p1 f1 r1 l1 ⊢
    obtain ⟨fs, t1, dum, gv⟩ := Y
    simp only at p1 f1 r1 l1 ⊢
    rw [Array.toList_push] at p1
    have p2 : fs.toList.Perm (((mixKind P w).hash k, v) :: es.toList) := p1.trans (List.perm_append_singleton _ _)
    have p3 : (fs.toList.map fun e => kOf e.2).Perm (k :: ks) := by
      have q := p2.map fun e : Int × Value => kOf e.2
      rw [List.map_cons] at q
      rw [show kOf ((mixKind P w).hash k, v).2 = k from kOf_is hk] at q
      exact q.trans (pm.cons k)
    have el1 : ElemsOf (mixKind P w) fs.toList := fun e he => by
      rcases List.mem_cons.mp (p2.mem_iff.mp he) with z | z
      · subst z; exact ⟨⟨k, hk, rfl⟩, hsc⟩
      · exact el e z
    have sz : fs.size = ks.length + 1 := by rw [← Array.length_toList, p2.length_eq, List.length_cons, Array.length_toList, hn]
    have room1 : fs.size < scanBound := by omega
    have led1 : w.params.followText "set-order" = true ∨ t1.led = true := led.imp id fun z => l1.trans z
    have nd1 : (k :: ks).Nodup := List.nodup_cons.mpr ⟨out, nd⟩
    have fin : ∀ h', Heap.SameBut a s.heap h' → SetM P w h' a (k :: ks) → Q true { s with heap := h' } := fun h' sb r => hQ true h' _ sb r (.inr ⟨rfl, out⟩)
    have gwf : ∀ (b : Bool) (u : Shared) (q : Unit → Shared → Prop), q () u → wpAny (model P w) A (match b with | true => rule "set.scan.the-table-gave-way" | false => pure ()) q E u := fun b u q z => gw b z
    refine wpAny_bind (gw _ ?_)
    split
    · refine wpAny_bind ?_
      rw [hashByValue_scannable 8 hsc]
      refine wpAny_pure (grow_end gwf ho hx hd nd1 el1 p3 room1 ?_ ?_ ?_ fun h' sb r => ?_)
      · first | (split <;> first | exact f1 | exact SetTable.fits_plain_off f1) | exact f1
      · first | (split <;> exact r1) | exact r1
      · first | (split <;> exact led1) | exact led1
      · simp only; exact wpAny_pure (fin h' sb r)
    · refine wpAny_bind (wpAny_pure ?_)
      simp only [↓reduceIte]
      refine grow_end gwf ho hx hd nd1 el1 p3 room1 f1 r1 led1 fun h' sb r => ?_
      simp only; exact wpAny_pure (fin h' sb r)
def Met (xs : List Key) (i : Nat) (ks : List Key) : Prop := ks.length ≤ i ∧ ∀ k, k ∈ ks ↔ k ∈ xs.take i
theorem Met.zero {xs : List Key} : Met xs 0 [] := ⟨Nat.le_refl _, fun k => by simp⟩
theorem Met.next {xs : List Key} {i : Nat} {ks ms : List Key} {k : Key} (m : Met xs i ks) (e : xs[i]? = some k) (c : (ms = ks ∧ k ∈ ks) ∨ (ms = k :: ks ∧ k ∉ ks)) : Met xs (i + 1) ms := by
  have tk : xs.take (i + 1) = xs.take i ++ [k] := by rw [List.take_add_one, e]; rfl
  rcases c with ⟨rfl, h⟩ | ⟨rfl, h⟩
  · refine ⟨Nat.le_succ_of_le m.1, fun j => ?_⟩
    rw [tk, List.mem_append, List.mem_singleton, ← m.2 j]
    exact ⟨.inl, fun z => z.elim id fun z => z ▸ h⟩
  · refine ⟨Nat.succ_le_succ m.1, fun j => ?_⟩
    rw [tk, List.mem_append, List.mem_singleton, List.mem_cons, ← m.2 j]
    exact Or.comm
theorem upd_keys {I : Addr} {fp wr : List Addr} {G : Array GenState → Array GenState → Prop} {n : Nat} {Pv : Nat → Value → Prop} {St : Nat → Shared → Prop} {R : Result → Shared → Prop}
    (W : WalksS P w A.in1 I fp wr G n Pv St) (S : Addr) (apart : S ∉ fp) (xs : List Key) (hn : n = xs.length) (room : xs.length + 1 < scanBound) (hval : ∀ i v, Pv i v → ∃ k, xs[i]? = some k ∧ (mixKind P w).is k v = true) :
    ∀ (left i : Nat) (s : Shared), n - i = left → i ≤ n → St i s → (∃ ks, SetM P w s.heap S ks ∧ Met xs i ks) →
      (∀ s' ks, Moved (S :: wr) G s s' → SetM P w s'.heap S ks → Met xs n ks → R (.ok (.ret .none)) s') →
      codeAny (model P w) A (.builtin "set.update.loop" ⟨[.ref S, .ref I], []⟩) R s := by
  have more : ∀ b ∈ wr, b ∈ S :: wr := fun b => List.mem_cons_of_mem _
  have notw : S ∉ wr := fun z => apart (W.sub _ z)
  intro left
  induction left with
  | zero =>
    intro i s e0 le st ⟨ks, K, M⟩ out
    obtain rfl : i = n := by omega
    refine codeAny_builtin F.entry_set_update_loop ?_
    rw [Around.under_plainId F.plain_set_update_loop _]
    show wpAny _ A.in1 (pyNext (.ref I) >>= _) _ _ s
    refine wpAny_bind (W.done s _ _ st fun s' mv => ?_)
    show wpAny _ A.in1 (ret Value.none) _ _ s'
    exact wpAny_pure (out s' ks (mv.mono more) (K.keep fun o e => mv.heap S o notw e) M)
  | succ left ih =>
    intro i s e0 le st ⟨ks, K, M⟩ out
    have lt : i < n := by omega
    refine codeAny_builtin F.entry_set_update_loop ?_
    rw [Around.under_plainId F.plain_set_update_loop _]
    show wpAny _ A.in1 (pyNext (.ref I) >>= _) _ _ s
    refine wpAny_bind (W.item i s _ _ lt st fun v s' pv st' mv => ?_)
    obtain ⟨k, ek, hk⟩ := hval i v pv
    have K' : SetM P w s'.heap S ks := K.keep fun o e => mv.heap S o notw e
    show wpAny _ A.in1 (holding [v] (setAdd S v) >>= _) _ _ s'
    refine wpAny_bind (wpAny_holding ?_)
    unfold setAdd
    refine wpAny_holding (wpAny_bind ((mixKind P w).pyHash hk ?_))
    refine setM_add (s := { s' with toks := s'.toks + 1 }) hk K' (by have := M.1; omega) fun b h' ms same K2 c => ?_
    have M2 := M.next ek c
    refine wpAny_pure ⟨plainId_quiet F.plain_set_update_loop _, ih (i + 1) _ (by omega) lt (W.frame _ s' _ _ st' (Nat.le_succ _) fun b hb o e => ?_) ⟨ms, K2, M2⟩ fun s2 ks2 mv2 K3 M3 => ?_⟩
    · rw [same.2 b (fun z : b = S => apart (z ▸ hb))]; exact e
    · refine out s2 ks2 (Moved.trans W.gtrans ((mv.mono more).then_heap (Nat.le_succ _) fun b o hb e => ?_) mv2) K3 M3
      rw [same.2 b (fun z : b = S => hb (z ▸ List.mem_cons_self))]; exact e
abbrev emptySet (w : World) : Obj := { cls := .type "set", dict := none, data := .set #[] 0 (.fresh 0 0 (!w.params.followText "set-order")) }
theorem setM_fresh {h : Heap} {b : Addr} (e : h.get? b = some (emptySet w)) : SetM P w h b [] :=
  ⟨List.nodup_nil, _, #[], 0, _, e, ⟨rfl, rfl, rfl⟩, rfl, (fun e he => by simp at he), List.Perm.refl _, (by decide), (by rfl), List.Pairwise.nil, by
    show _ ∨ (!w.params.followText "set-order") = true
    cases w.params.followText "set-order"
    · exact .inr rfl
    · exact .inl rfl⟩
set_option maxRecDepth 100000 in
set_option maxHeartbeats 3200000 in
theorem set_of_list {l : Addr} {its : Array Value} (xs : List Key) {Q : Value → Shared → Prop} (hh : A.handled = none) (hl : s.heap.IsList l its) (hn : its.size = xs.length) (hv : ∀ (i : Nat) (v : Value), its[i]? = some v → ∃ k, xs[i]? = some k ∧ (mixKind P w).is k v = true)
    (room : xs.length + 1 < scanBound)
    (h : ∀ (h' : Heap) (tk : Nat) (ks : List Key), SetM P w h' s.heap.objs.size ks → Met xs xs.length ks → (∀ b o, s.heap.get? b = some o → h'.get? b = some o) → Q (.ref s.heap.objs.size) { s with heap := h', toks := tk }) :
    wpAny (model P w) A (call (.type "set") [.ref l]) Q E s := by
  have made := F.called_set.made
  obtain ⟨c, tl, mro⟩ := F.called_set.mro
  have sub := F.called_set.sub
  refine wpAny_call (codeAny_of_tree ?_)
  show wpAny _ _ (callAny (.type "set") _) _ _ _
  refine wpAny_pure ⟨Code.quiet_builtin _ (by decide +kernel), codeAny_builtin F.entry_type_call ?_⟩
  rw [Around.under_plain (weight_type_call_type "set" [.ref l] []) rfl]
  have n1 := F.called_set.notType
  have n2 := F.called_set.canCreate
  have n3 := F.typeCall_set_1 (.ref l)
  repeat (any_goals (first | assumption | wp_step))
  refine codeAny_mono (code_set_led1 (.ref l) (E := E) (Q₁ := fun x u => x = .ref s.heap.objs.size ∧ u = { s with heap := s.heap.push (emptySet w) }) ⟨rfl, rfl⟩) fun r u hr => ?_
  match r, hr with
  | .error e, hr => exact hr
  | .ok (.ret obj), hr =>
    obtain ⟨rfl, rfl⟩ := hr
    have e0 : (s.heap.push (emptySet w)).get? s.heap.objs.size = some (emptySet w) := Heap.get?_push_size _ rfl
    have ty : Shared.TypeIs { s with heap := s.heap.push (emptySet w) } (.ref s.heap.objs.size) "set" := ⟨_, e0, rfl⟩
    have i1 := F.called_set.init.lookup
    have i2 := F.called_set.init.bind (.ref s.heap.objs.size)
    repeat (any_goals (first | assumption | wp_step))
    refine codeAny_mono (codeAny_call_builtin (R := wants (fun r u => r = .none ∧ ∃ h' tk ks, u = { s with heap := h', toks := tk } ∧ SetM P w h' s.heap.objs.size ks ∧ Met xs xs.length ks ∧ (∀ b o, s.heap.get? b = some o → h'.get? b = some o)) E)
      F.called_set.init.plain F.entry_set_init (check_set_init_1 ty ?_)) fun r2 u2 hr2 => ?_
    · obtain ⟨ol, hol, hcl, nl, hdl⟩ := hl
      obtain ⟨ocls, odict, odata, oslots⟩ := ol
      simp only at hcl hdl
      subst hcl; subst hdl
      have hol2 : (s.heap.push (emptySet w)).get? l = some { cls := .type "list", dict := odict, data := .seq its nl, slots := oslots } := Heap.get?_push_of_some _ hol
      have k1 := F.sub_list_set
      have k2 := F.sub_list_frozenset
      have k3 : (Value.type "list" == Value.type "dict") = false := by decide
      have il : (s.heap.push (emptySet w)).IsList l its := ⟨_, hol2, rfl, nl, rfl⟩
      unfold Builtin.«set.__init__» noKeywords Builtin.Frozenset.updateFrom
      generalize hPI : pyIter = PI
      wp_walk
      subst hPI
      refine wpAny_pyIter_list il ?_
      refine wpAny_bind (wpAny_runValue ?_)
      have ll : l < s.heap.objs.size := Heap.lt_size hol
      have hh3 : A.in1.in1.in1.handled = none := by simp [hh]
      have z1 : (s.heap.push (emptySet w)).objs.size = s.heap.objs.size + 1 := Heap.size_push ..
      have far : l ≠ (s.heap.push (emptySet w)).objs.size := by rw [z1]; exact Nat.ne_of_lt (Nat.lt_succ_of_lt ll)
      have apart : s.heap.objs.size ∉ [(s.heap.push (emptySet w)).objs.size, l] := by
        rw [z1]; simp only [List.mem_cons, List.not_mem_nil, or_false, not_or]
        exact ⟨Nat.ne_of_lt (Nat.lt_succ_self _), Nat.ne_of_gt ll⟩
      refine upd_keys ((Walks.list hh3 _ l far its).toS) s.heap.objs.size apart xs hn room hv (its.size - 0) 0 _ rfl (Nat.zero_le _) ⟨⟨_, Heap.get?_push_size _ rfl, rfl, rfl⟩, il.push _⟩ ⟨[], setM_fresh (Heap.get?_push_of_some _ e0), .zero⟩ ?_
      intro s2 ks mv K M
      obtain ⟨h', g2, d2, tk2, os2⟩ := s2
      have q1 : g2 = s.gens := mv.gens
      have q2 : d2 = s.drawn := mv.drawn
      have q3 : os2 = s.os := mv.os
      subst q1; subst q2; subst q3
      show wpAny _ _ _ _ _ _
      refine wpAny_pure ?_
      show wpAny _ _ (ret Value.none) _ _ _
      rw [hn] at M
      refine wpAny_pure ⟨rfl, h', tk2, ks, rfl, K, M, fun b o e => ?_⟩
      have lb := Heap.lt_size e
      exact mv.heap b o (by simp only [List.mem_cons, List.not_mem_nil, or_false, not_or]; exact ⟨Nat.ne_of_lt lb, by rw [z1]; exact Nat.ne_of_lt (Nat.lt_succ_of_lt lb)⟩) (Heap.get?_push_of_some _ (Heap.get?_push_of_some _ e))
    · match r2, hr2 with
      | .error e, hr2 => exact hr2
      | .ok (.ret r), hr2 =>
        obtain ⟨rfl, h', tk, ks, rfl, K, M, kp⟩ := hr2
        repeat (any_goals (first | assumption | wp_step))
        exact h _ _ _ K M kp
end
end L3
set_option maxRecDepth 100000
set_option maxHeartbeats 4000000
namespace L3
open PySem PySem.Spec L2 PyProof.Rows PySem.W
section
variable {X : Cx} {E : Env3} {pins : List (Addr × Obj)} {σ : L2.St} {H : Hp} {s : Shared} {g : G} {w : WX}
theorem rvs_kinv {K : PySem.W.Frag} : ∀ {ks : List Key} {ys : List V}, RVs K H (ks.map kW) ys → ys = ks.map kV
  | [], _, h => h.nil_inv
  | k :: ks, _, h => by
    obtain ⟨v, r, rfl, h1, h2⟩ := h.cons_inv
    rw [rvs_kinv h2]
    have : v = kV k := by cases k <;> simpa [kW, kV, RV] using h1
    rw [this]; rfl
theorem keysL_raw {a : W} {v : V} {q : List Key → Prop} (hK : X.K = E.K) (I : Inv X pins σ H s) (hg : GR E g H) (r : RV E.K H a v) (h : keysL a g q) : ∃ (p : Addr) (ks : List Key), v = .ref p ∧ SqL X.K H p (ks.map kV) ∧ q ks := by
  unfold keysL at h
  split at h
  · rw [RV] at r; subst r
    obtain ⟨xs, e1, ks, rfl, h1⟩ := lstAt_inv h
    obtain ⟨ys, q1, r1⟩ := hg _ _ e1
    rw [rvs_kinv r1] at q1
    exact ⟨_, ks, rfl, SqL.of q1, h1⟩
  · obtain ⟨p, ys, rfl, ht, hr⟩ := rv_scr_inv r
    obtain ⟨ks, rfl, h1⟩ := h
    rw [rvs_kinv hr] at ht
    exact ⟨p, ks, rfl, by rw [hK]; exact ht.sq, h1⟩
  · obtain ⟨p, ys, rfl, ht, hr⟩ := rv_lv_inv r
    obtain ⟨ks, rfl, h1⟩ := h
    rw [rvs_kinv hr] at ht
    exact ⟨p, ks, rfl, by rw [hK]; exact ht.sq, h1⟩
  · exact h.elim
theorem vals_key {P : Program} {wd : World} : ∀ {ks : List Key} {us : List Value}, Vals (ks.map kV) us → us.length = ks.length ∧ ∀ (i : Nat) (v : Value), us[i]? = some v → ∃ k, ks[i]? = some k ∧ (mixKind P wd).is k v = true
  | [], _, h => by cases h; exact ⟨rfl, fun i v e => by simp at e⟩
  | k :: ks, _, h => by
    cases h with
    | cons a r =>
      obtain ⟨h1, h2⟩ := vals_key (P := P) (wd := wd) r
      refine ⟨by simp [h1], fun i v e => ?_⟩
      cases i with
      | zero => simp at e; subst e; exact ⟨k, rfl, kV_is a⟩
      | succ i => exact h2 i v (by simpa using e)
theorem made_set {Q : Value → Shared → Prop} {Z : Value → Shared → Prop} (hc : X.calm = true) (I : Inv X pins σ H s) {p : Addr} {ks : List Key} (hq : SqL X.K H p (ks.map kV)) (hl : ks.length ≤ 4000)
    (h : ∀ (h' : Heap) (tk : Nat) (ms : List Key), SetM X.prog X.w h' s.heap.objs.size ms → (∀ k, k ∈ ms ↔ k ∈ ks) → ms.length ≤ ks.length → Inv X pins σ H { s with heap := h', toks := tk } → Q (.ref s.heap.objs.size) { s with heap := h', toks := tk }) :
    wpAny (model X.prog X.w) X.A (call (.type "set") [.ref p]) Q Z s := by
  obtain ⟨its, r, pl, hz⟩ := I.list hq
  obtain ⟨n1, n2⟩ := vals_key (P := X.prog) (wd := X.w) r
  refine set_of_list (P := X.prog) (w := X.w) ks (I.ok.hd hc) pl.isList (by rw [List.size_toArray]; exact n1) (fun i v e => n2 i v (by simpa using e)) (by unfold scanBound; omega) fun h' tk ms K M kp => ?_
  refine h h' tk ms K (fun k => ?_) M.1 (I.kept kp)
  rw [M.2 k, List.take_length]
theorem pe_lset {e : Expr} {te : TE3} {p p2 pos pos2 : Pos} (hK : X.K = E.K) (hc : X.calm = true) (hg : Gl X "len") (hm : X.mg "len" = none) (hg2 : Gl X "set") (hm2 : X.mg "set" = none) (he : PE X e (liftE E w te))
    (hs : starEach [e] X.env = (false, eval e X.env) :: starEach [] X.env) : PE X (.Call (.Name "len" p) [.Call (.Name "set" p2) [e] [] pos2] [] pos) (liftE E w fun x s g q => te x s g fun v g1 => lsetS v g1 q) := by
  refine ⟨fun pins s σ H Q I ⟨s3, g, q, x, hsr, hgr, h, kq, kx⟩ => ?_⟩
  refine Call_ (ld_blt I hg hm boot_len ?_)
  refine PyProof.Rows.callWith_builtin1 (PyProof.Rows.args_cons ?_ rfl) rfl rfl
  refine Call_ (ld_blt I hg2 hm2 PyProof.Rows.boot_set ?_)
  refine PyProof.Rows.callWith_type1 (PyProof.Rows.args_cons (thn (he.run pins s σ H (fun v H1 => ∃ a g1, RV E.K H1 a v ∧ GR E g1 H1 ∧ FK g H g1 H1 ∧ lsetS a g1 q) I ⟨s3, g, _, x, hsr, hgr, h, fun a g1 v H1 hg1 ra f1 h1 => ⟨a, g1, ra, hg1, f1, h1⟩, kx⟩) fun v s1 ⟨y, H1, I1, r1, a, g1, ra, hg1, f1, h1⟩ => PyProof.Rows.args_nil ?_) hs) hs rfl
  obtain ⟨b, ks, rfl, hq, hl, h1⟩ := keysL_raw hK I1 hg1 ra h1
  cases r1
  refine made_set hc I1 hq hl fun h' tk ms K M L I2 => PyProof.Rows.args_nil ?_
  obtain ⟨nd, o, es, ep, t, ho, hx, hd, el, pm, small, fit, _, _⟩ := K
  have en : es.size = ms.length := by rw [← pm.length_eq, List.length_map, Array.length_toList]
  refine call_len_set ho hx hd fit (by rw [en]; omega) ⟨.int ms.length, H1, I2.tok _, ⟨_, by rw [en]⟩, kq _ g1 _ H1 hg1 rv_int f1 (h1 ms nd M)⟩
theorem pe_sset {e : Expr} {te : TE3} {p p2 pos pos2 : Pos} (hK : X.K = E.K) (hc : X.calm = true) (hu : X.A.units + 70 < cLine) (hg : Gl X "sorted") (hm : X.mg "sorted" = none) (hg2 : Gl X "set") (hm2 : X.mg "set" = none) (he : PE X e (liftE E w te))
    (hs : starEach [e] X.env = (false, eval e X.env) :: starEach [] X.env) : PE X (.Call (.Name "sorted" p) [.Call (.Name "set" p2) [e] [] pos2] [] pos) (liftE E w fun x s g q => te x s g fun v g1 => ssetS v g1 q) := by
  refine ⟨fun pins s σ H Q I ⟨s3, g, q, x, hsr, hgr, h, kq, kx⟩ => ?_⟩
  refine Call_ (ld_blt I hg hm PyProof.Rows.boot_sorted ?_)
  refine PyProof.Rows.callWith_builtin1 (PyProof.Rows.args_cons ?_ rfl) rfl rfl
  refine Call_ (ld_blt I hg2 hm2 PyProof.Rows.boot_set ?_)
  refine PyProof.Rows.callWith_type1 (PyProof.Rows.args_cons (thn (he.run pins s σ H (fun v H1 => ∃ a g1, RV E.K H1 a v ∧ GR E g1 H1 ∧ FK g H g1 H1 ∧ ssetS a g1 q) I ⟨s3, g, _, x, hsr, hgr, h, fun a g1 v H1 hg1 ra f1 h1 => ⟨a, g1, ra, hg1, f1, h1⟩, kx⟩) fun v s1 ⟨y, H1, I1, r1, a, g1, ra, hg1, f1, h1⟩ => PyProof.Rows.args_nil ?_) hs) hs rfl
  obtain ⟨b, ks, rfl, hq, hl, h1⟩ := keysL_raw hK I1 hg1 ra h1
  cases r1
  refine made_set hc I1 hq hl fun h' tk ms K M L I2 => PyProof.Rows.args_nil ?_
  obtain ⟨nd, o, es, ep, t, ho, hx, hd, el, pm, small, fit, ris, led⟩ := K
  have en : es.size = ms.length := by rw [← pm.length_eq, List.length_map, Array.length_toList]
  refine Calls.call_function_entry PyProof.Rows.kind_sorted PyProof.Rows.plain_sorted PyProof.Rows.entry_sorted (PyProof.Rows.args_sorted1 _) ?_
  unfold Builtin.«sorted»
  refine wpAny_bind (m := checkCount "sorted" 1 1 _) (wpAny_pure ?_)
  refine wpAny_bind (collect_set (A := X.A.in1) (I2.ok.hd hc) ⟨o, ho, hx.1, hd⟩ fit small ris led fun s2 vs k2 z2 g2 o2 pv => ?_)
  have hms : (vs.map kOf).Perm ms := by
    have := pv.map kOf
    rw [List.map_map] at this
    exact this.trans pm
  have lv : vs.length = ms.length := by rw [← hms.length_eq, List.length_map]
  have h2 := h1 (vs.map kOf) (hms.nodup_iff.mpr nd) fun k => hms.mem_iff.trans (M k)
  obtain ⟨enc, h1, h2, h3, h4, h5⟩ := h2
  have I3 : Inv X pins σ H1 s2 := I2.call' (ch := []) o2 (Un.kept k2) (I2.hok.kept k2) (by rw [g2]; exact I2.bare) (fun _ z => nomatch z)
  have h16 : vs.length ≤ sizeLine := by rw [lv, ← en]; exact fits_of_scanBound small
  have eE : PySem.W.EachIs (RU E.K H1) vs ((vs.map kOf).map kW) := by
    refine kw_each (knd := mixKind X.prog X.w) (fun {k v} e => ?_) (by rw [List.length_map]) fun j v e => ?_
    · rcases keyIs_shape e with ⟨i, t, ek, ev⟩ | ⟨z, t, ek, ev⟩
      · subst ek; exact ⟨t, ev⟩
      · subst ek; exact ⟨t, ev⟩
    · refine ⟨kOf v, by rw [List.getElem?_map, e]; rfl, ?_⟩
      obtain ⟨e', he', rfl⟩ := List.mem_map.mp (pv.mem_iff.mp (List.mem_of_getElem? e))
      obtain ⟨⟨k0, hk0, _⟩, _⟩ := el e' he'
      rw [kOf_is hk0]; exact hk0
  refine wpAny_bind (wpAny_newList ?_ h16)
  have hoL : (s2.heap.push (seqObj "list" vs.toArray 0)).get? s2.heap.objs.size = some (seqObj "list" vs.toArray 0) := Heap.get?_push_size _ rfl
  show wpAny _ _ _ _ _ { s2 with heap := s2.heap.push (seqObj "list" vs.toArray 0) }
  have er : PySem.W.EachIs (fun v b => ∃ as, Reads (sortingHeap (s2.heap.push (seqObj "list" vs.toArray 0)) s2.heap.objs.size vs) v (enc b) as) vs ((vs.map kOf).map kW) :=
    (ru_all I3 hK hg1 eE h1).mono fun _ _ ⟨as, r⟩ => ⟨as, PyProof.Rows.Reads.keeps (fun b o e => by
      have hb : b < s2.heap.objs.size := Heap.lt_size e
      exact sortingHeap_old (Nat.ne_of_lt hb) (Heap.get?_push_of_some _ e)) r⟩
  have S : PySem.W.SortsAt X.prog X.w X.A.in1.in1 { s2 with heap := sortingHeap (s2.heap.push (seqObj "list" vs.toArray 0)) s2.heap.objs.size vs } (PySem.W.dataKind (sortingHeap (s2.heap.push (seqObj "list" vs.toArray 0)) s2.heap.objs.size vs) (((vs.map kOf).map kW).map enc)) vs :=
    PySem.W.SortsAt.data (PySem.W.each_map (R := fun v d => ∃ as, Reads _ v d as) enc er) h2 h3 fun d hd => by
      obtain ⟨b, hb, rfl⟩ := List.mem_map.mp hd
      have := h4 b hb
      show X.A.units + 1 + 1 + _ < cLine
      omega
  have eo := PySem.W.sortVals_data false eE er h2
  obtain ⟨zs, q1, q2⟩ := ru_each eo
  have lz : zs.length ≤ sizeLine := by rw [q1.length, List.length_mergeSort, List.length_map, List.length_map]; exact h16
  refine wpAny_bind (wpAny_holding (wpAny_call_entry PyProof.Rows.slot_list_sort ⟨_, hoL, rfl⟩ PyProof.Rows.entry_list_sort
    (PySem.W.list_sort_vals (s := { s2 with heap := s2.heap.push (seqObj "list" vs.toArray 0) }) hoL S h16 ⟨_, rfl, ?_⟩)
    (PyProof.Rows.args_list_sort _)))
  obtain ⟨e', he'⟩ := PyProof.Rows.sortedHeap_at (vs := vs) (out := (PySem.W.sortVals (PySem.W.dataKind (sortingHeap (s2.heap.push (seqObj "list" vs.toArray 0)) s2.heap.objs.size vs) (((vs.map kOf).map kW).map enc)) false vs vs).toArray) hoL
  refine wpAny_pure ⟨_, rfl, .ref s2.heap.objs.size, upd H1 s2.heap.objs.size (.lst zs), I3.laid (t' := s2.toks) (fun b u e => ?_) (Nat.le_refl _)
    (show ObjOk X.prog X.w _ _ _ (.lst zs) from ⟨lz, _, e', q2, he'⟩), rfl, new_lst hg1 (I3.hok.fresh (Nat.le_refl _)) q1 h5 (kq.at f1)⟩
  have hb : b < s2.heap.objs.size := Heap.lt_size e
  rw [PyProof.Rows.sortedHeap_old (Nat.ne_of_lt hb) (by rw [size_push']; exact Nat.lt_succ_of_lt hb)]
  exact Heap.get?_push_of_some _ e
theorem maxOf_ge : ∀ (ys : List Int) (y : Int), PySem.W.maxOf y ys ∈ y :: ys ∧ ∀ u ∈ y :: ys, u ≤ PySem.W.maxOf y ys
  | [], y => ⟨List.mem_cons_self, fun u h => by rw [List.mem_singleton.mp h]; exact Int.le_refl _⟩
  | z :: ys, y => by
    have e : PySem.W.maxOf y (z :: ys) = PySem.W.maxOf (if decide (y < z) = true then z else y) ys := rfl
    obtain ⟨h1, h2⟩ := maxOf_ge ys (if decide (y < z) = true then z else y)
    rw [e]
    have h3 := h2 _ List.mem_cons_self
    constructor
    · rcases List.mem_cons.mp h1 with k | k
      · rw [k]; split <;> simp
      · exact List.mem_cons_of_mem _ (List.mem_cons_of_mem _ k)
    · intro u hu
      rcases List.mem_cons.mp hu with rfl | hu
      · by_cases c : u < z
        · rw [if_pos (by simpa using c)] at h3 ⊢; omega
        · rw [if_neg (by simpa using c)] at h3 ⊢; omega
      · rcases List.mem_cons.mp hu with rfl | hu
        · by_cases c : y < u
          · rw [if_pos (by simpa using c)] at h3 ⊢; omega
          · rw [if_neg (by simpa using c)] at h3 ⊢; omega
        · exact h2 u (List.mem_cons_of_mem _ hu)
theorem minOf_le : ∀ (ys : List Int) (y : Int), PySem.W.minOf y ys ∈ y :: ys ∧ ∀ u ∈ y :: ys, PySem.W.minOf y ys ≤ u
  | [], y => ⟨List.mem_cons_self, fun u h => by rw [List.mem_singleton.mp h]; exact Int.le_refl _⟩
  | z :: ys, y => by
    have e : PySem.W.minOf y (z :: ys) = PySem.W.minOf (if decide (z < y) = true then z else y) ys := rfl
    obtain ⟨h1, h2⟩ := minOf_le ys (if decide (z < y) = true then z else y)
    rw [e]
    have h3 := h2 _ List.mem_cons_self
    constructor
    · rcases List.mem_cons.mp h1 with k | k
      · rw [k]; split <;> simp
      · exact List.mem_cons_of_mem _ (List.mem_cons_of_mem _ k)
    · intro u hu
      rcases List.mem_cons.mp hu with rfl | hu
      · by_cases c : z < u
        · rw [if_pos (by simpa using c)] at h3 ⊢; omega
        · rw [if_neg (by simpa using c)] at h3 ⊢; omega
      · rcases List.mem_cons.mp hu with rfl | hu
        · by_cases c : u < y
          · rw [if_pos (by simpa using c)] at h3 ⊢; omega
          · rw [if_neg (by simpa using c)] at h3 ⊢; omega
        · exact h2 u (List.mem_cons_of_mem _ hu)
def rMxd (K : PySem.W.Frag) (mn : Bool) : List V → List V → Hp → VK → Prop := fun vs zs H Q => ∃ (a : Addr) (ns : List Int) (z : V), vs = [V.ref a] ∧ zs = [z] ∧ SqL K H a (ns.map V.int) ∧ (ns = [] → Q z H) ∧ ∀ m, m ∈ ns → (∀ y, y ∈ ns → (if mn = true then m ≤ y else y ≤ m)) → Q (.int m) H
theorem cr_mxd (hc : X.calm = true) (hu : X.A.units + 70 < cLine) (mn : Bool) : CallRK X (.builtin (if mn = true then "min" else "max")) [Str.ofString "default"] (rMxd X.K mn) := by
  intro pins s σ H vs zs us ws Q I r rz h
  obtain ⟨a, ns, z, rfl, rfl, hs, q0, q⟩ := h
  obtain ⟨its, rv, hl, _⟩ := I.list hs
  rw [Vals.ref1 r]
  cases rz with
  | cons r1 r2 =>
  cases r2
  rename_i v
  have hd : X.A.units + 1 + PySem.W.Datum.depth Int < cLine := by show X.A.units + 1 + 0 < cLine; omega
  cases mn with
  | true =>
    exact PySem.W.min_list_datum_default (α := Int) (I.ok.hd hc) hl.isList (PySem.W.HoldAll.of_ints (by simpa using rv.ints)) hd (fun e h' tk hk => ⟨z, H, I.kept hk, r1, q0 e⟩) fun y ys i v h' tk e hi hv hk => by
      obtain ⟨t, rfl⟩ := PySem.W.int_of_holds hv
      obtain ⟨k1, k2⟩ := minOf_le ys y
      exact ⟨.int _, H, I.kept hk, ⟨t, rfl⟩, q _ (by rw [e]; exact k1) (by rw [e]; exact k2)⟩
  | false =>
    exact PySem.W.max_list_datum_default (α := Int) (I.ok.hd hc) hl.isList (PySem.W.HoldAll.of_ints (by simpa using rv.ints)) hd (fun e h' tk hk => ⟨z, H, I.kept hk, r1, q0 e⟩) fun y ys i v h' tk e hi hv hk => by
      obtain ⟨t, rfl⟩ := PySem.W.int_of_holds hv
      obtain ⟨k1, k2⟩ := maxOf_ge ys y
      exact ⟨.int _, H, I.kept hk, ⟨t, rfl⟩, q _ (by rw [e]; exact k1) (by rw [e]; exact k2)⟩
theorem l_mxd {mn : Bool} {te td : TE3} {σ : L2.St} {H : Hp} {Q : VK} (hK : X.K = E.K) (h : liftE E w (fun x s g q => te x s g fun a g1 => td x s g1 fun z g2 => mxdS mn a z g2 q) σ H Q) : tCKw (rMxd X.K mn) (tCons (liftE E w te) tNil) (tCons (liftE E w td) tNil) σ H Q := by
  obtain ⟨s, g, q, x, hs, hg, h, kq, kx⟩ := h
  refine ⟨s, g, _, x, hs, hg, h, fun a g1 v H1 hg1 ra f1 h1 => ?_, kx⟩
  refine ⟨s, g1, _, x, hs.keep (f1.tk hg), hg1, h1, fun z g2 u H2 hg2 rz f2 h2 => ?_, kx.at f1⟩
  have ra := ra.keep (f2.tk hg1)
  have f := f1.trans f2
  have fin : ∀ (p : Addr) (ns : List Int), SqL X.K H2 p (ns.map V.int) → (ns = [] → q z g2) → (∀ m, m ∈ ns → (∀ y, y ∈ ns → (if mn = true then m ≤ y else y ≤ m)) → q (.int m) g2) → rMxd X.K mn [V.ref p] [u] H2 Q := fun p ns hp h0 hm =>
    ⟨p, ns, u, rfl, rfl, hp, fun e => kq z g2 u H2 hg2 rz f (h0 e), fun m k1 k2 => kq _ g2 _ H2 hg2 rv_int f (hm m k1 k2)⟩
  unfold mxdS at h2
  split at h2
  · simp only [RV] at ra; subst ra
    obtain ⟨xs, eg, ns, rfl, k1, k2⟩ := lstAt_inv h2
    obtain ⟨ys, e1, r1⟩ := hg2 _ _ eg
    have e := r1.ints
    subst e
    exact fin _ ns (SqL.of e1) k1 k2
  · obtain ⟨ns, rfl, k1, k2⟩ := h2
    obtain ⟨p, ys, rfl, ht, hr⟩ := rv_lv_inv ra
    have e := hr.ints
    subst e
    exact fin p ns (by rw [hK]; exact ht.sq) k1 k2
  · exact h2.elim
theorem boot_mx (mn : Bool) : bootBuiltins (if mn = true then ("min" : Str) else ("max" : Str)) = some (.builtin (if mn = true then "min" else "max")) := by cases mn <;> decide +kernel
theorem pe_mxd {mn : Bool} {e d : Expr} {te td : TE3} {p kp pos : Pos} (hK : X.K = E.K) (hc : X.calm = true) (hu : X.A.units + 70 < cLine) (hg : Gl X (if mn = true then ("min" : Str) else ("max" : Str))) (hm : X.mg (if mn = true then ("min" : Str) else ("max" : Str)) = none) (he : PE X e (liftE E w te)) (hd : PE X d (liftE E w td))
    (hs : starEach [e] X.env = (false, eval e X.env) :: starEach [] X.env) : PE X (.Call (.Name (if mn = true then ("min" : Str) else ("max" : Str)) p) [e] [⟨some "default", d, kp⟩] pos) (liftE E w fun x s g q => te x s g fun a g1 => td x s g1 fun z g2 => mxdS mn a z g2 q) := by
  exact peI (pe_callBK (cr_mxd hc hu mn) hg hm (boot_mx mn) (pa_cons he pa_nil hs) (pk_cons hd pk_nil) (by cases mn <;> decide +kernel) (by cases mn <;> decide +kernel) (by rw [hs]; rfl) (by rw [hs]; rfl) rfl rfl rfl) fun _ _ _ => l_mxd hK
end
end L3
set_option maxRecDepth 100000
set_option maxHeartbeats 4000000
namespace L3
open PySem PySem.Spec L2
structure Ck where
  N : List Str
  sc : Scope
  inDef : Bool
  P : List (Option Str)
  gls : List Str
  xs : List Str
  cs : List (Str × List Bool) := []
  hot : Bool := false
  ocs : List OC3 := []
  fl : List Str := []
  ics : List (Str × List Bool) := []
  hP : List (Option Str) := []
  xf : List (Option Str) := []
  xfl : List Str := []
def envS (sc : Scope) : Env := { scope := sc, locals := 0, globals := 0, cells := [], qual := ⟨#[]⟩, func := none, code := .none, frame := none, builtins := 0 }
def relab (scope sc : Scope) : Scope := relabel scope (envS sc)
def Ck.inner (ck : Ck) (scope : Scope) : Ck := { ck with sc := relab scope ck.sc, inDef := false, xs := [] }
def boOf : Bo → Operator
  | .add => .Add | .sub => .Sub | .mul => .Mult | .fdiv => .FloorDiv | .mod => .Mod | .pow => .Pow
def coOf : Co → CmpOp
  | .eq => .Eq | .ne => .NotEq | .lt => .Lt | .le => .LtE | .gt => .Gt | .ge => .GtE | .is => .Is | .isnot => .IsNot | .in_ => .In | .notin => .NotIn | .deq => .Eq | .dne => .NotEq
def prOf : Pr → Str × Bool
  | .len => ("len", false) | .abs => ("abs", false) | .str => ("str", true) | .max => ("max", false) | .min => ("min", false) | .sum => ("sum", false)
  | .all => ("all", false) | .any => ("any", false) | .int => ("int", true) | .list => ("list", true) | .divmod => ("divmod", false) | .sorted => ("sorted", false) | .dict => ("dict", true)
def mtOf : Mt → Str
  | .append => "append" | .extend => "extend" | .pop => "pop" | .join => "join" | .split => "split" | .partition => "partition" | .index => "index" | .remove => "remove"
def hotPr : Pr → Bool
  | .len => true | .abs => true | .divmod => true | .str => true | .int => true | .dict => true
  | _ => false
def blts : List Str := ["len", "abs", "str", "max", "min", "sum", "all", "any", "int", "list", "divmod", "isinstance", "range", "reversed", "enumerate", "zip", "bool", "tuple", "dict", "set", "sorted"]
def plainE : Expr → Bool
  | .Starred .. => false
  | _ => true
def notSl : Expr → Bool
  | .Slice .. => false
  | _ => true
def notComp : Expr → Bool
  | .ListComp .. => false
  | .SetComp .. => false
  | .DictComp .. => false
  | _ => true
def plainBase : Expr → Bool
  | .Call (.Name _ _) [] [] _ => false
  | _ => true
def isTupE : Expr → Bool
  | .Tuple .. => true
  | _ => false
def isListE : Expr → Bool
  | .List .. => true
  | _ => false
section
variable (ck : Ck)
def nmOk (x : Str) : Bool := !(x == ("__debug__" : Str)) && !(x == ("__classdict__" : Str))
def isVar (i : Nat) (x : Str) : Bool := decide (ck.N[i]? = some x) && (match ck.sc.names.lookup x with | some .local => true | some .cell => true | some .free => true | _ => false) && nmOk x
def isLoc (i : Nat) (x : Str) : Bool := decide (ck.N[i]? = some x) && (match ck.sc.names.lookup x with | some .local => true | some .cell => ck.inDef | _ => false)
def isLoc1 (i : Nat) (x : Str) : Bool := decide (ck.N[i]? = some x) && decide (ck.sc.names.lookup x = some .local)
def isGl (x : Str) : Bool := decide (ck.sc.names.lookup x = some .globalImplicit) && nmOk x
def isxOf : Expr → Option (Str × Str × List Expr)
  | .Call (.Name x _) [.Name n _, .Tuple es _ _] [] _ => some (x, n, es)
  | _ => none
theorem isxOf_inv {e : Expr} {x n : Str} {es : List Expr} (h : isxOf e = some (x, n, es)) : ∃ q q1 k q2 p, e = .Call (.Name x q) [.Name n q1, .Tuple es k q2] [] p := by
  unfold isxOf at h
  split at h
  · cases h; exact ⟨_, _, _, _, _, rfl⟩
  · cases h
def clsNs : List (Str × List Bool) → List Expr → Bool
  | [], [] => true
  | (y, row) :: ys, .Name t _ :: es => decide (t = y) && (isGl ck t && (decide ((y, row) ∈ ck.cs) && clsNs ys es))
  | _, _ => false
def locs : List Nat → List Expr → Bool
  | [], [] => true
  | i :: is, .Name x _ :: es => isLoc ck i x && locs is es
  | _, _ => false
def chkT : T3 → Expr → Bool
  | .name i, .Name x _ => isLoc ck i x
  | .tup is, .Tuple es _ _ => locs ck is es && !ck.hot
  | _, _ => false
def tIs : T3 → List Nat
  | .name i => [i]
  | .tup is => is
end
def lrevOf : Expr → Option (Str × Str × Expr)
  | .Call (.Name x _) [.Call (.Name y _) [v] [] _] [] _ => some (x, y, v)
  | _ => none
theorem lrevOf_inv {e : Expr} {x y : Str} {v : Expr} (h : lrevOf e = some (x, y, v)) : ∃ q q2 p2 p, e = .Call (.Name x q) [.Call (.Name y q2) [v] [] p2] [] p := by
  unfold lrevOf at h
  split at h
  · cases h; exact ⟨_, _, _, _, rfl⟩
  · cases h
def iscOf : Expr → Option (Str × Expr × Str)
  | .Call (.Name x _) [l, .Name t _] [] _ => some (x, l, t)
  | _ => none
theorem iscOf_inv {e : Expr} {x t : Str} {l : Expr} (h : iscOf e = some (x, l, t)) : ∃ q q2 p, e = .Call (.Name x q) [l, .Name t q2] [] p := by
  unfold iscOf at h
  split at h
  · cases h; exact ⟨_, _, _, rfl⟩
  · cases h
def nevOk : Expr → Bool
  | .Set .. => false
  | .ListComp .. => false
  | .SetComp .. => false
  | .DictComp .. => false
  | .GeneratorExp .. => false
  | _ => true
def specialT : Expr → Bool
  | .UnaryOp .Not _ _ => true
  | .BoolOp .. => true
  | .IfExp .. => true
  | .Compare .. => true
  | _ => false
mutual
def chk : E3 → Ck → Expr → Bool
  | .var i, ck, .Name x _ => isVar ck i x
  | .int i, _, .Constant (.int j) _ _ => decide (i = j)
  | .str i, _, .Constant (.str j) _ _ => decide (i = j)
  | .bl i, _, .Constant (.bool j) _ _ => decide (i = j)
  | .non, _, .Constant .none _ _ => true
  | .glob i, ck, .Name x _ => decide (ck.gls[i]? = some x) && isGl ck x
  | .bin o a b, ck, .BinOp l op r _ => decide (boOf o = op) && chk a ck l && chk b ck r
  | .neg a, ck, .UnaryOp .USub x _ => chk a ck x
  | .cmp o a b, ck, .Compare l [op] [r] _ => decide (coOf o = op) && chk a ck l && chk b ck r && !(behindInMarks op r)
  | .cmp2 o o' a b c, ck, .Compare l [op, op'] [r, r'] _ => decide (coOf o = op) && decide (coOf o' = op') && chk a ck l && chk b ck r && chk c ck r' && !(behindInMarks op' r')
  | .cmp3 o o' o'' a b c d, ck, .Compare l [op, op', op''] [r, r', r''] _ => decide (coOf o = op) && decide (coOf o' = op') && decide (coOf o'' = op'') && chk a ck l && chk b ck r && chk c ck r' && chk d ck r'' && !(behindInMarks op'' r'')
  | .and es, ck, .BoolOp .And vs _ => chks es ck vs
  | .or es, ck, .BoolOp .Or vs _ => chks es ck vs
  | .not a, ck, .UnaryOp .Not x _ => chk a ck x
  | .ite c a b, ck, .IfExp t x y _ => chk c ck t && chk a ck x && chk b ck y
  | .lst es, ck, .List vs _ => chks es ck vs
  | .tup es, ck, .Tuple vs _ _ => chks es ck vs
  | .dic _, _, .Dict [] [] _ => true
  | .ix a i, ck, .Subscript l r _ => chk a ck l && chk i ck r && notSl r
  | .sl a lo hi, ck, .Subscript l (.Slice l1 l2 none _) _ => chk a ck l && chko lo ck l1 && chko hi ck l2
  | .call f es, ck, .Call (.Name x _) vs [] _ => decide (ck.P[f]? = some (some x)) && isGl ck x && chks es ck vs && !ck.hot
  | .prim p es, ck, .Call (.Name x _) (v :: vs) [] _ => decide ((prOf p).1 = x) && isGl ck x && chks es ck (v :: vs) && (!ck.hot || hotPr p)
  | .meth m o es, ck, .Call (.Attribute l name apos) vs [] cpos => decide (mtOf m = name) && plainBase l && (apos.endLine == cpos.line) && chk o ck l && chks es ck vs && decide (vs.length < 20)
  | .isi a T, ck, .Call (.Name x _) [l, .Name t _] [] _ => decide (x = ("isinstance" : Str)) && isGl ck x && decide (t = Str.ofString T) && isGl ck t && decide (T ∈ tySome) && chk a ck l
  | .isx i y row, ck, .Call (.Name x _) [.Name n _, .Name t _] [] _ => decide (x = ("isinstance" : Str)) && isGl ck x && decide (t = y) && isGl ck y && isVar ck i n && decide ((y, row) ∈ ck.cs) && ck.hot
  | .lc elt tg it c own, ck, .ListComp e [⟨tg', it', ifs, 0⟩] scope _ =>
      blkC ck.N ck.sc scope (own.filterMap fun i => ck.N[i]?.map fun x => (x, i)) && (tIs tg).all (fun i => decide (i ∈ own)) && own.all (fun i => decide (i < ck.N.length)) && decide ((tIs tg).Nodup) &&
      chki it ck (isTupE tg') it' && chkT (ck.inner scope) tg tg' && chk elt (ck.inner scope) e &&
      chkc c (ck.inner scope) ifs && !ck.hot
  | .lcK elt tg it c own, ck, .ListComp e [⟨tg', it', ifs, 0⟩] scope _ =>
      blkC ck.N ck.sc scope (own.filterMap fun i => ck.N[i]?.map fun x => (x, i)) && (tIs tg).all (fun i => decide (i ∈ own)) && own.all (fun i => decide (i < ck.N.length)) && decide ((tIs tg).Nodup) &&
      chki it ck (isTupE tg') it' && chkT (ck.inner scope) tg tg' && chk elt (ck.inner scope) e &&
      chkc c (ck.inner scope) ifs && !ck.hot
  | .dget1 o e, ck, .Call (.Attribute l name apos) [v] [] cpos => decide (name = ("get" : Str)) && plainBase l && (apos.endLine == cpos.line) && chk o ck l && chk e ck v && plainE v
  | .dpop1 o e, ck, .Call (.Attribute l name apos) [v] [] cpos => decide (name = ("pop" : Str)) && plainBase l && (apos.endLine == cpos.line) && chk o ck l && chk e ck v && plainE v
  | .dget2 o e d, ck, .Call (.Attribute l name apos) [v, u] [] cpos => decide (name = ("get" : Str)) && plainBase l && (apos.endLine == cpos.line) && chk o ck l && chk e ck v && chk d ck u && plainE v && plainE u
  | .dsetd o e d, ck, .Call (.Attribute l name apos) [v, u] [] cpos => decide (name = ("setdefault" : Str)) && plainBase l && (apos.endLine == cpos.line) && chk o ck l && chk e ck v && chk d ck u && plainE v && plainE u
  | .lrev a, ck, x => match lrevOf x with
    | some (x, y, v) => decide (x = ("list" : Str)) && isGl ck x && decide (y = ("reversed" : Str)) && isGl ck y && chk a ck v && plainE v && !ck.hot
    | none => false
  | .lset a, ck, x => match lrevOf x with
    | some (x, y, v) => decide (x = ("len" : Str)) && isGl ck x && decide (y = ("set" : Str)) && isGl ck y && chk a ck v && plainE v && !ck.hot
    | none => false
  | .sset a, ck, x => match lrevOf x with
    | some (x, y, v) => decide (x = ("sorted" : Str)) && isGl ck x && decide (y = ("set" : Str)) && isGl ck y && chk a ck v && plainE v && !ck.hot
    | none => false
  | .mxd mn a d, ck, .Call (.Name x _) [v] [⟨some k, u, _⟩] _ => decide (x = (if mn = true then ("min" : Str) else ("max" : Str))) && isGl ck x && decide (k = ("default" : Str)) && chk a ck v && chk d ck u && plainE v && !ck.hot
  | .dic1 k v, ck, .Dict [some a] [b] _ => chk k ck a && chk v ck b
  | .dic2 k v k2 v2, ck, .Dict [some a, some a2] [b, b2] _ => chk k ck a && chk v ck b && chk k2 ck a2 && chk v2 ck b2
  | .frz e, ck, x => !(specialT x) && chk e ck x
  | .attr o f, ck, .Attribute l name _ => decide (f = name) && plainBase l && decide (f ∈ ck.fl) && chk o ck l
  | .mcall o m es, ck, .Call (.Attribute l name apos) vs [] cpos => decide (m = name) && plainBase l && (apos.endLine == cpos.line) && decide (m ∉ ck.fl) && chk o ck l && chks es ck vs && decide (vs.length < 20) && !ck.hot
  | .new c f es, ck, .Call (.Name x _) vs [] _ => (match ck.ocs[c]? with | some oc => decide (oc.name = x) && decide (oc.init = f) | none => false) && isGl ck x && chks es ck vs && !ck.hot
  | .fmt e, ck, .FormattedValue v (-1) none _ => chk e ck v
  | .nev, _, x => !(specialT x) && plainE x && nevOk x
  | .ccall c f m es, ck, .Call (.Attribute (.Name y q) name apos) (v :: vs) [] cpos => (match ck.ocs[c]? with | some oc => decide (oc.name = y) && (if m = ("__init__" : Str) then decide (oc.init = f) else decide (oc.meths.lookup m = some f)) | none => false) && decide (m = name) && isGl ck y && (apos.endLine == cpos.line) && chks es ck (v :: vs) && decide ((v :: vs).length < 20) && decide (m = ("__init__" : Str)) && !ck.hot
  | .isc a y row, ck, e => match iscOf e with
    | some (x, l, t) => decide (x = ("isinstance" : Str)) && isGl ck x && decide (t = y) && isGl ck t && decide ((y, row) ∈ ck.ics) && chk a ck l
    | none => false
  | .fstr es, ck, .JoinedStr (v1 :: v2 :: vs) _ => chkf es ck (v1 :: v2 :: vs)
  | .isxs i ys, ck, e => match isxOf e with
    | some (x, n, es) => decide (x = ("isinstance" : Str)) && (isGl ck x && (isVar ck i n && (clsNs ck ys es && (decide (0 < ys.length ∧ ys.length < 100) && ck.hot))))
    | none => false
  | .xattr i f, ck, .Attribute (.Name n _) name _ => decide (f = name) && isVar ck i n && decide (f ∈ ck.xfl) && ck.hot
  | .hcall f es, ck, .Call (.Name x _) (v :: vs) [] _ => decide (ck.hP[f]? = some (some x)) && isGl ck x && chks es ck (v :: vs) && ck.hot && ck.inDef
  | _, _, _ => false
def chks : Es3 → Ck → List Expr → Bool
  | .nil, _, [] => true
  | .cons e es, ck, v :: vs => plainE v && chk e ck v && chks es ck vs
  | _, _, _ => false
def chkf : Es3 → Ck → List Expr → Bool
  | .nil, _, [] => true
  | .cons e es, ck, v :: vs => chk e ck v && chkf es ck vs
  | _, _, _ => false
def chko : O3 → Ck → Option Expr → Bool
  | .none, _, none => true
  | .some e, ck, some v => chk e ck v
  | _, _, _ => false
def chkc : O3 → Ck → List Expr → Bool
  | .none, _, [] => true
  | .some e, ck, [v] => chk e ck v
  | _, _, _ => false
def chki : I3 → Ck → Bool → Expr → Bool
  | .rng1 a, ck, _, .Call (.Name x _) [v] [] _ => decide (x = ("range" : Str)) && isGl ck x && chk a ck v && plainE v
  | .rng2 a b, ck, _, .Call (.Name x _) [v, u] [] _ => decide (x = ("range" : Str)) && isGl ck x && chk a ck v && chk b ck u && plainE v && plainE u
  | .rng3 a b c, ck, _, .Call (.Name x _) [v, u, t] [] _ => decide (x = ("range" : Str)) && isGl ck x && chk a ck v && chk b ck u && chk c ck t && plainE v && plainE u && plainE t
  | .str a, ck, _, e => chk a ck e
  | .rev a, ck, _, .Call (.Name x _) [v] [] _ => decide (x = ("reversed" : Str)) && isGl ck x && chk a ck v && plainE v
  | .enum a, ck, t, .Call (.Name x _) [v] [] _ => t && decide (x = ("enumerate" : Str)) && isGl ck x && chk a ck v && plainE v
  | .zip a b, ck, t, .Call (.Name x _) [v, u] [] _ => t && decide (x = ("zip" : Str)) && isGl ck x && chk a ck v && chk b ck u && plainE v && plainE u
  | .seq a, ck, _, e => chk a ck e
  | .keys a, ck, _, e => chk a ck e
  | .items a, ck, t, .Call (.Attribute l name apos) [] [] cpos => t && decide (name = ("items" : Str)) && plainBase l && (apos.endLine == cpos.line) && chk a ck l
  | _, _, _, _ => false
end
def swapOk (ck : Ck) (x y : Str) (px py : Pos) (a b : Expr) : Bool :=
  (py.line == px.line) && decide (ck.sc.names.lookup x = some .local) && decide (ck.sc.names.lookup y = some .local) && decide (x ≠ y) && !(foldedForSure 8 a && foldedForSure 8 b) && !(constantsAlone 8 a && constantsAlone 8 b)
def parOf : Stmt → Option (Str × Pos × Str × Pos × Expr × Expr)
  | .Assign [.Tuple [.Name x px, .Name y py] _ _] (.Tuple [u, v] _ _) _ => some (x, px, y, py, u, v)
  | _ => none
def raiseOf : Stmt → Option Str
  | .Raise (some (.Call (.Name x _) [.Constant (.str _) _ _] [] _)) none _ => some x
  | _ => none
def raiseFOf : Stmt → Option (Str × Expr)
  | .Raise (some (.Call (.Name x _) [v] [] _)) none _ => some (x, v)
  | _ => none
theorem raiseFOf_inv {st : Stmt} {x : Str} {v : Expr} (h : raiseFOf st = some (x, v)) : ∃ q p2 p, st = .Raise (some (.Call (.Name x q) [v] [] p2)) none p := by
  unfold raiseFOf at h
  split at h
  · cases h; exact ⟨_, _, _, rfl⟩
  · cases h
def isNil3 : Ss3 → Bool
  | .nil => true
  | _ => false
def tryOf : Stmt → Option (List Stmt × Str × Option Str × Stmt × List Stmt × List Stmt)
  | .Try b [.ExceptHandler (some (.Name t _)) n (s0 :: ss) _] o [] _ => some (b, t, n, s0, ss, o)
  | _ => none
theorem tryOf_inv {st : Stmt} {b ss o : List Stmt} {t : Str} {n : Option Str} {s0 : Stmt} (h : tryOf st = some (b, t, n, s0, ss, o)) : ∃ q q2 p, st = .Try b [.ExceptHandler (some (.Name t q)) n (s0 :: ss) q2] o [] p := by
  unfold tryOf at h
  split at h
  · cases h; exact ⟨_, _, _, rfl⟩
  · cases h
theorem parOf_inv {st : Stmt} {x y : Str} {px py : Pos} {u v : Expr} (h : parOf st = some (x, px, y, py, u, v)) : ∃ k q k2 q2 p, st = .Assign [.Tuple [.Name x px, .Name y py] k q] (.Tuple [u, v] k2 q2) p := by
  unfold parOf at h
  split at h
  · cases h; exact ⟨_, _, _, _, _, rfl⟩
  · cases h
theorem raiseOf_inv {st : Stmt} {x : Str} (h : raiseOf st = some x) : ∃ q m k q2 p2 p, st = .Raise (some (.Call (.Name x q) [.Constant (.str m) k q2] [] p2)) none p := by
  unfold raiseOf at h
  split at h
  · cases h; exact ⟨_, _, _, _, _, _, rfl⟩
  · cases h
def chkN (ck : Ck) : Option Nat → Option Str → Bool
  | some i, some n => isLoc1 ck i n
  | none, none => true
  | _, _ => false
def isFrz : E3 → Bool
  | .frz _ => true
  | _ => false
mutual
def chkS : S3 → Ck → Stmt → Bool
  | .expr e, ck, .Expr x _ => chk e ck x && notComp x
  | .ret e, ck, .Return (some x) _ => chk e ck x
  | .retN, _, .Return none _ => true
  | .set i e, ck, .Assign [.Name x _] v _ => isLoc ck i x && chk e ck v && (notComp v || !isFrz e)
  | .setT is e, ck, .Assign [.Tuple es _ _] v _ => locs ck is es && chk e ck v && !(isTupE v) && !ck.hot
  | .par i j a b, ck, st => match parOf st with
    | some (x, px, y, py, u, v) => decide (i ≠ j) && isLoc ck i x && isLoc ck j y && chk a ck u && chk b ck v && plainE u && plainE v && swapOk ck x y px py u v && !ck.hot
    | none => false
  | .put o i e, ck, .Assign [.Subscript l r _] v _ => chk e ck v && chk o ck l && chk i ck r && notSl r
  | .ifS c a b, ck, .If t x y _ => chk c ck t && chkSs a ck x && chkSs b ck y
  | .for_ tg it body, ck, .For tg' it' b [] _ => chkT ck tg tg' && chki it ck (isTupE tg') it' && chkSs body ck b && !ck.hot
  | .forK tg it body, ck, .For tg' it' b [] _ => chkT ck tg tg' && chki it ck (isTupE tg') it' && chkSs body ck b && !ck.hot
  | .while_ c body, ck, .While t b [] _ => chk c ck t && chkSs body ck b
  | .brk, _, .Break _ => true
  | .cont, _, .Continue _ => true
  | .pass, _, .Pass _ => true
  | .raise_ c, ck, st => match raiseOf st with
    | some x => decide (ck.xs[c]? = some x) && isGl ck x && !ck.hot && decide (ck.xf[c]? = some none) && ck.inDef
    | none => false
  | .try_ body y row nm suite els, ck, st => match tryOf st with
    | some (b, t, n, s0, ss, o) => decide (t = y) && isGl ck y && decide ((y, row) ∈ ck.cs) && chkN ck nm n && chkSs body ck b && chkSs suite { ck with hot := true } (s0 :: ss) && chkSs els ck o && (nm.isNone || isNil3 els) && !ck.hot && ck.inDef
    | none => false
  | .never, _, _ => true
  | .seta o f e, ck, .Assign [.Attribute l name _] v _ => decide (f = name) && decide (f ∈ ck.fl) && notComp v && chk e ck v && chk o ck l
  | .fz _ st, ck, x => chkS st ck x
  | .raiseF c f e, ck, st => match raiseFOf st with
    | some (x, v) => decide (ck.xs[c]? = some x) && isGl ck x && !ck.hot && decide (ck.xf[c]? = some (some f)) && chk e ck v && plainE v && ck.inDef
    | none => false
  | _, _, _ => false
def chkSs : Ss3 → Ck → List Stmt → Bool
  | .nil, _, [] => true
  | .cons s ss, ck, x :: xs => chkS s ck x && chkSs ss ck xs
  | _, _, _ => false
end
end L3
set_option maxRecDepth 100000
set_option maxHeartbeats 4000000
namespace L3
open PySem PySem.Spec L2
def spF (E : Env3) (c : List W → G → XK3 → VK3 → Prop) (n : Nat) : Sp := fun vs H Q X => vs.length = n ∧ ∃ ws g q x, RVs E.K H ws vs ∧ GR E g H ∧ c ws g x q ∧ KQ E g H q Q ∧ KX E g H x X
structure DefRun (X : Cx) (E : Env3) (c : List W → G → XK3 → VK3 → Prop) (f : Addr) : Prop where
  ex : ∃ (fd : FuncData) (ps : List Str) (k : Nat), FnOk X.prog X.w X.K X.mg X.base (L2.CX X.prog X.w) k f fd ps (spF E c ps.length) ∧ Room (k + 1) X.A ∧
    ∀ ws g x q, c ws g x q → ∃ ds dvs dws, Vals dvs ds ∧ Binds X.K fd ps ds ∧ (∀ H, RVs E.K H dws dvs) ∧ (ws ++ dws).length = ps.length ∧ c (ws ++ dws) g x q
structure CallOk (X : Cx) (E : Env3) (c : List W → G → XK3 → VK3 → Prop) (x : Str) : Prop where
  ex : ∃ f : Addr, X.mg x = some (.ref f) ∧ PySem.W.keepIn X.K (.ref f) = true ∧ DefRun X E c f
structure FnX (Pr : Program) (w : World) (K : PySem.W.Frag) (mg : Str → Option Value) (base : Heap) (k : Nat) (f : Addr) (fd : FuncData) (ps : List Str) (sp : Sp) (p : Addr × Obj) : Prop where
  len : ∀ vs H Q X, sp vs H Q X → vs.length = ps.length
  run : ∀ (A : Around) (out : List Env) (s : Shared) (H : Hp) (args : Args) (us : List Value) (vs : List V) (Q : VK), L2H.RoomH k A → L2H.PinOk out H s p → Env0 Pr w K mg base A out s H → BindsTo s fd args (ps.zip us) → Vals vs us → sp vs H Q (fun _ _ _ => False) →
    codeAny (model Pr w) A (.call (.ref f) args) (CR (L2.CX Pr w) out Pr w H s Q (fun _ _ _ => False)) s
structure XfOk (K : PySem.W.Frag) (E : Env3) (c : Nat) : Prop where
  xf : XfC K (E.cls c)
  no : ∀ f ∈ E.xfl, PySem.W.findIn K (.ref (E.cls c)) f = some none
structure HRun (X : Cx) (E : Env3) (c : List W → G → XK3 → VK3 → Prop) (f : Addr) : Prop where
  ex : ∃ (fd : FuncData) (ps : List Str) (k : Nat), (∀ (a : Addr) (oe : Obj) (cn : Nat) (dd : Option Addr), Zc (.ref (E.cls cn)) dd oe → (∃ vs, oe.data = .fields vs) → XfOk X.K E cn →
      FnX X.prog X.w X.K X.mg X.base k f fd ps (spF E (fun ws g x q => c (.exc a cn dd :: ws) g x q) ps.length) (a, oe)) ∧ L2H.RoomH k X.A ∧ Binds X.K fd ps [] ∧ ∀ a cn dd ws g x q, c (.exc a cn dd :: ws) g x q → ws.length = ps.length
structure HCallOk (X : Cx) (E : Env3) (c : List W → G → XK3 → VK3 → Prop) (x : Str) : Prop where
  ex : ∃ f : Addr, X.mg x = some (.ref f) ∧ PySem.W.keepIn X.K (.ref f) = true ∧ HRun X E c f
structure ClsOk (X : Cx) (E : Env3) (ck : Ck) : Prop where
  on : E.on = ck.ocs.length
  fl : E.fl = ck.fl
  cls : ∀ c, c < E.on → Cls X.K (E.ocl c)
  noat : ∀ c, c < E.on → ∀ f ∈ E.fl, NoAttr X.K (E.ocl c) f
structure InitRd (K : PySem.W.Frag) (C fa : Addr) : Prop where
  rd : PySem.W.readsIn K C (.type "type") = true
  ga : PySem.W.specialIn K (.ref C) "__getattribute__" = some (some (.builtin "type.__getattribute__"))
  at_ : PySem.W.findCls K (.ref C) (.type "type") "__init__" = some (.val (.ref fa))
  kp : PySem.W.keepIn K (.ref fa) = true
structure IscFact (X : Cx) (E : Env3) (y : Str) (row : List Bool) : Prop where
  ex : ∃ D : Addr, X.mg y = some (.ref D) ∧ ∀ (c : Nat) (b : Bool), row[c]? = some b → PySem.W.kitOne X.K (.ref (E.ocl c)) (.ref D) = some b ∧ PySem.W.findIn X.K (.ref (E.ocl c)) "__class__" = some (some (.builtin "object.__class__")) ∧
    PySem.W.specialIn X.K (.builtin "object.__class__") "__get__" = some (some (.builtin "getset_descriptor.__get__")) ∧ PySem.W.takesIn X.K (.builtin "object.__class__") = some true ∧ PySem.W.mroIn X.K (E.ocl c) (.type "object") = some true
structure ObOk (X : Cx) (E : Env3) (CF : CF3) (ck : Ck) : Prop where
  meth : ∀ c oc m i, ck.ocs[c]? = some oc → oc.meths.lookup m = some i → ∃ fa, Meth X.K (E.ocl c) m fa ∧ DefRun X E (CF i) fa
  mkr : ∀ c oc, ck.ocs[c]? = some oc → ∃ fa, Mk X.K (E.ocl c) fa ∧ X.mg oc.name = some (.ref (E.ocl c)) ∧ DefRun X E (CF oc.init) fa ∧ InitRd X.K (E.ocl c) fa
structure RaiseOk (X : Cx) (E : Env3) (c : Nat) (x : Str) : Prop where
  pm : Gl X x → ∀ p m j p2 pos, PMk X (.Call (.Name x p) [.Constant (.str m) j p2] [] pos) (fun _ H Q => Q (.ref (E.cls c)) none H)
def spI (C : Addr) (f : Str) : Sp := fun vs H Q _ => ∃ a v, vs = [.ref a, v] ∧ H a = some (exo a C none) ∧ ∀ dx, H dx = none → dx ≠ a → Q .non (upd (upd H dx (exd dx [(f, v)])) a (exo a C (some dx)))
def XfQ (C : Addr) (f : Str) (Q : XK) (v : V) (H1 : Hp) : Prop := [v].length ≤ 1000 ∧ ∀ a, H1 a = none → spI C f (.ref a :: ([v] ++ [])) (upd H1 a (exo a C none))
  (fun u H2 => u = .non ∧ ∃ (d : Addr) (fs : List (Str × V)), H2 a = some (exo a C (some d)) ∧ H2 d = some (exd d fs) ∧ H1 d = none ∧ Q (.ref C) (some d) (upd (del H2 a) d (.xd fs))) (fun _ _ _ => False)
theorem xfq_of {C : Addr} {f : Str} {Q : XK} {v : V} {H1 : Hp} (h : ∀ d, H1 d = none → Q (.ref C) (some d) (upd H1 d (.xd [(f, v)]))) : XfQ C f Q v H1 := by
  refine ⟨by simp, fun a ha => ⟨a, v, rfl, upd_same, fun dx h1 h2 => ⟨rfl, dx, [(f, v)], upd_same, by rw [upd_ne h2, upd_same], by rw [upd_ne h2] at h1; exact h1, ?_⟩⟩⟩
  rw [upd_ne h2] at h1
  have e : upd (del (upd (upd (upd H1 a (exo a C none)) dx (exd dx [(f, v)])) a (exo a C (some dx))) a) dx (.xd [(f, v)]) = upd H1 dx (.xd [(f, v)]) := by
    funext b
    by_cases z : b = dx
    · subst z; rw [upd_same, upd_same]
    · rw [upd_ne z, upd_ne z]
      by_cases z2 : b = a
      · subst z2; rw [del_same, ha]
      · rw [del_ne z2, upd_ne z2, upd_ne z, upd_ne z2]
  rw [e]
  exact h dx h1
structure RaiseFOk (X : Cx) (E : Env3) (c : Nat) (x : Str) (f : Str) : Prop where
  pm : Gl X x → (x == ("__debug__" : Str)) = false → ∀ (e : Expr) (t : TE) (p pos : Pos), PE X e t → plainE e = true → PMk X (.Call (.Name x p) [e] [] pos) (fun σ H Q => t σ H fun v H1 => XfQ (E.cls c) f Q v H1)
structure ClsFact (X : Cx) (E : Env3) (y : Str) (row : List Bool) : Prop where
  ex : ∃ (v : V) (c : Value), RelV v c ∧ (∀ u, RelV v u → u = c) ∧ (X.mg y = some c ∨ (X.mg y = none ∧ bootBuiltins y = some c ∧ y ≠ "__name__")) ∧
    ∀ (k : Nat) (b : Bool), row[k]? = some b → PySem.W.kitOne X.K (.ref (E.cls k)) c = some b ∧ PySem.W.exmOne X.K (.ref (E.cls k)) c = some b ∧ ExcC X.K (E.cls k) ∧ XfOk X.K E k
structure SuOk (X : Cx) (E : Env3) (gl : Gs) : Prop where
  ex : ∃ (a : Addr) (oe : Obj) (c : Nat) (d : Option Addr), (a, oe) ∈ X.pn ∧ gl.su = some (a, c, d) ∧ Zc (.ref (E.cls c)) d oe ∧ (∃ vs, oe.data = .fields vs) ∧ XfOk X.K E c
def w0 : WX := fun _ _ _ _ => False
structure CkOk (ck : Ck) (X : Cx) (E : Env3) (w : WX) (CF : CF3) (gl : Gs) : Prop where
  hK : X.K = E.K
  hN : X.N = ck.N
  nd : ck.N.Nodup
  sc : X.env.scope = ck.sc
  kind : ck.sc.kind = .function
  calm : ck.hot = false → X.calm = true
  stk : ck.inDef = true → X.stack = X.env :: X.outer ∧ X.env.frame = some X.env.locals
  cs : ∀ p ∈ ck.cs, ClsFact X E p.1 p.2
  su : ck.hot = true → SuOk X E gl
  fn : ck.inDef = true → ∀ x, X.fn x = true
  tk : Takes X w
  pass : PassesOwn (model X.prog X.w) X.A X.env X.xe
  hu : X.A.units + 100 < cLine
  blt : ∀ x ∈ blts, X.mg x = none
  gls : ∀ i x, ck.gls[i]? = some x → ∃ u v, X.mg x = some u ∧ RelV v u ∧ ∀ H, RV E.K H (gl.v i) v
  fns : ck.hot = false → ∀ i x, ck.P[i]? = some (some x) → CallOk X E (CF i) x
  goc : gl.ocs = ck.ocs
  cl : ClsOk X E ck
  ob : ck.hot = false → ObOk X E CF ck
  ics : ∀ p ∈ ck.ics, IscFact X E p.1 p.2
  xs : ck.hot = false → ∀ c x, ck.xs[c]? = some x → ∀ X' : Cx, X'.prog = X.prog → X'.w = X.w → X'.K = X.K → X'.mg = X.mg → Room 2 X'.A → (ck.xf[c]? = some none → RaiseOk X' E c x) ∧ ∀ f, ck.xf[c]? = some (some f) → RaiseFOk X' E c x f
  xfl : E.xfl = ck.xfl
  hw : ck.hot = true → w = w0
  room : ck.inDef = true → ck.hot = false → Room 2 X.A
  hfn : ck.inDef = true → ∀ i x, ck.hP[i]? = some (some x) → HCallOk X E (CF i) x
theorem bool_and {a b : Bool} (h : (a && b) = true) : a = true ∧ b = true := by simpa using h
theorem bool_not {a : Bool} (h : (!a) = true) : a = false := by simpa using h
section
variable {X : Cx} {E : Env3} {w : WX} {CF : CF3} {gl : Gs} {ck : Ck}
theorem nm_1 {x : Str} (h : nmOk x = true) : (x == ("__debug__" : Str)) = false ∧ (x == ("__classdict__" : Str)) = false := by
  unfold nmOk at h
  obtain ⟨a, b⟩ := bool_and h
  exact ⟨bool_not a, bool_not b⟩
theorem CkOk.var (ok : CkOk ck X E w CF gl) {i : Nat} {x : Str} (h : isVar ck i x = true) : X.N[i]? = some x ∧ Vis X.env.scope x ∧ (x == ("__debug__" : Str)) = false ∧ (x == ("__classdict__" : Str)) = false := by
  unfold isVar at h
  obtain ⟨h, h3⟩ := bool_and h
  obtain ⟨h1, h2⟩ := bool_and h
  refine ⟨by rw [ok.hN]; exact of_decide_eq_true h1, ?_, nm_1 h3⟩
  rw [ok.sc]
  split at h2
  · exact .inl (by assumption)
  · exact .inr (.inl (by assumption))
  · exact .inr (.inr (by assumption))
  · cases h2
theorem CkOk.loc (ok : CkOk ck X E w CF gl) {i : Nat} {x : Str} (h : isLoc ck i x = true) : X.N[i]? = some x ∧ Loc X.env.scope x ∧ (X.fn x = true ∨ X.env.scope.names.lookup x = some .local) := by
  unfold isLoc at h
  obtain ⟨h1, h2⟩ := bool_and h
  refine ⟨by rw [ok.hN]; exact of_decide_eq_true h1, ?_⟩
  rw [ok.sc]
  split at h2
  · rename_i e; exact ⟨.inl e, .inr e⟩
  · rename_i e; exact ⟨.inr e, .inl (ok.fn h2 x)⟩
  · cases h2
theorem CkOk.gl' (ok : CkOk ck X E w CF gl) {x : Str} (h : isGl ck x = true) : Gl X x ∧ (x == ("__debug__" : Str)) = false := by
  unfold isGl at h
  obtain ⟨h1, h2⟩ := bool_and h
  exact ⟨by unfold Gl; show X.env.scope.names.lookup x = _; rw [ok.sc]; exact of_decide_eq_true h1, (nm_1 h2).1⟩
theorem CkOk.nd' (ok : CkOk ck X E w CF gl) : X.N.Nodup := by rw [ok.hN]; exact ok.nd
theorem star_plain {e : Expr} {es : List Expr} {env : Env} (h : plainE e = true) : starEach (e :: es) env = (false, eval e env) :: starEach es env := by
  cases e <;> first | rfl | (simp [plainE] at h)
theorem chks_plain : ∀ {es : Es3} {ck : Ck} {vs : List Expr}, chks es ck vs = true → ∀ v ∈ vs, plainE v = true
  | .nil, _, [], _, v, hv => by cases hv
  | .nil, _, _ :: _, h, _, _ => by simp [chks] at h
  | .cons e es, _, [], h, _, _ => by simp [chks] at h
  | .cons e es, ck, u :: vs, h, v, hv => by
    simp only [chks] at h
    obtain ⟨h, h3⟩ := bool_and h
    obtain ⟨h1, h2⟩ := bool_and h
    rcases List.mem_cons.mp hv with rfl | hv
    · exact h1
    · exact chks_plain h3 v hv
theorem star_any {env : Env} {pos : Pos} : ∀ {es : List Expr}, (∀ v ∈ es, plainE v = true) → (backTo pos (starEach es env)).any (·.1) = false
  | [], _ => rfl
  | e :: es, h => by
    rw [star_plain (h e List.mem_cons_self)]
    show (false || (backTo pos (starEach es env)).any (·.1)) = false
    rw [star_any fun v hv => h v (List.mem_cons_of_mem _ hv)]
    rfl
theorem star_all {env : Env} {pos : Pos} : ∀ {es : List Expr}, (∀ v ∈ es, plainE v = true) → (backTo pos (starEach es env)).all (fun x => !x.1) = true
  | [], _ => rfl
  | e :: es, h => by
    rw [star_plain (h e List.mem_cons_self)]
    show (true && (backTo pos (starEach es env)).all (fun x => !x.1)) = true
    rw [star_all fun v hv => h v (List.mem_cons_of_mem _ hv)]
    rfl
theorem base_plain {l : Expr} {name : Str} {env : Env} (h : plainBase l = true) : attributeBase l name env (eval l env) = eval l env := by
  unfold attributeBase
  split
  · simp [plainBase] at h
  · rfl
theorem plainIx_of {r : Expr} (h : notSl r = true) : PlainIx r := by
  intro o i
  cases r <;> first | rfl | (simp [notSl] at h)
theorem l_tup {ta : TA3} {σ : L2.St} {H : Hp} {Q : VK} (h : liftE E w (eTup ta) σ H Q) : tTup (liftA E w ta) σ H Q := by
  obtain ⟨s, g, q, x, hs, hg, h, kq, kx⟩ := h
  exact ⟨s, g, _, x, hs, hg, h, fun ws g1 vs H1 hg1 r f1 h1 => ⟨by rw [r.length]; exact h1.1, fun p np => new_tup hg1 np r h1.2 (kq.at f1)⟩, kx⟩
theorem l_lst {ta : TA3} {σ : L2.St} {H : Hp} {Q : VK} (h : liftE E w (eLst ta) σ H Q) : tLst (liftA E w ta) σ H Q := by
  obtain ⟨s, g, q, x, hs, hg, h, kq, kx⟩ := h
  exact ⟨s, g, _, x, hs, hg, h, fun ws g1 vs H1 hg1 r f1 h1 => ⟨by rw [r.length]; exact h1.1, fun p np => new_lst hg1 np r h1.2 (kq.at f1)⟩, kx⟩
theorem l_dicK {σ : L2.St} {H : Hp} {Q : VK} (h : liftE E w (eDic false) σ H Q) : tDNewK σ H Q := by
  obtain ⟨s, g, q, x, hs, hg, h, kq, kx⟩ := h
  exact fun p np => kq _ _ _ _ (hg.new (o := .dic false []) np ⟨[], upd_same, rfl, .nil⟩) rv_ref (FK.new np) (h p (hg.free np))
theorem l_dicT {σ : L2.St} {H : Hp} {Q : VK} (h : liftE E w (eDic true) σ H Q) : tDNewT σ H Q := by
  obtain ⟨s, g, q, x, hs, hg, h, kq, kx⟩ := h
  exact fun p np => kq _ _ _ _ (hg.new (o := .dit false []) np ⟨[], upd_same, rfl, .nil⟩) rv_ref (FK.new np) (h p (hg.free np))
theorem l_bT {t : TE3} {σ : L2.St} {H : Hp} {Q : Bool → Hp → Prop} (h : liftT E w (bT t) σ H Q) : tB (liftE E w t) σ H Q := by
  obtain ⟨s, g, q, x, hs, hg, h, kq, kx⟩ := h
  refine ⟨s, g, _, x, hs, hg, h, fun a g1 v H1 hg1 r f1 h1 => ?_, kx⟩
  obtain ⟨b, rfl, h1⟩ := h1
  rw [RV] at r
  exact ⟨b, r, kq b g1 H1 hg1 f1 h1⟩
theorem l_tst {t : TE3} {r : R2} {ta tb : TE} (i : ∀ {σ H Q}, liftE E w t σ H Q → tOp r ta tb σ H Q) {σ : L2.St} {H : Hp} {Q : Bool → Hp → Prop} (h : liftT E w (bT t) σ H Q) : tTest (tOp r ta tb) σ H Q := i (l_bT h)
theorem l_meth {r : W → List W → G → VK3 → Prop} {ty : W → G → Prop} {T : String} {to : TE3} {ta : TA3} {K : PySem.W.Frag}
    (hty : ∀ {a : W} {v : V} {g : G} {H : Hp}, ty a g → RV E.K H a v → GR E g H → tyV K T v H)
    {σ : L2.St} {H : Hp} {Q : VK} (h : liftE E w (eM r ty to ta) σ H Q) : tBM K T (liftM E r) (liftE E w to) (liftA E w ta) σ H Q := by
  obtain ⟨s, g, q, x, hs, hg, h, kq, kx⟩ := h
  refine ⟨s, g, _, x, hs, hg, h, fun a g1 v H1 hg1 ra f1 h1 => ⟨hty h1.1 ra hg1, ?_⟩, kx⟩
  refine ⟨s, g1, _, x, hs.keep (f1.tk hg), hg1, h1.2, fun ws g2 us H2 hg2 rb f2 h2 => ?_, kx.at f1⟩
  exact ⟨a, ws, g2, q, ra.keep (f2.tk hg1), rb, hg2, h2, kq.at (f1.trans f2)⟩
theorem l_meth0 {r : W → List W → G → VK3 → Prop} {ty : W → G → Prop} {T : String} {to : TE3} {K : PySem.W.Frag}
    (hty : ∀ {a : W} {v : V} {g : G} {H : Hp}, ty a g → RV E.K H a v → GR E g H → tyV K T v H)
    {σ : L2.St} {H : Hp} {Q : VK} (h : liftE E w (eM r ty to aNil) σ H Q) : tBM0 K T (liftM E r) (liftE E w to) σ H Q := by
  obtain ⟨s, g, q, x, hs, hg, h, kq, kx⟩ := h
  exact ⟨s, g, _, x, hs, hg, h, fun a g1 v H1 hg1 ra f1 h1 => ⟨hty h1.1 ra hg1, a, [], g1, q, ra, .nil, hg1, h1.2, kq.at f1⟩, kx⟩
theorem ty_lst {K : PySem.W.Frag} {a : W} {v : V} {g : G} {H : Hp} (h : isLst a g) (r : RV E.K H a v) (hg : GR E g H) : tyV K "list" v H := by
  cases a with
  | ref p => rw [RV] at r; subst r; obtain ⟨xs, e⟩ := h; obtain ⟨ys, f, _⟩ := hg _ _ e; exact .inl ⟨rfl, ys, SqL.of f⟩
  | lv xs => rw [RV] at r; obtain ⟨p, ys, rfl, ⟨o, e⟩, _⟩ := r; exact .inl ⟨rfl, ys, .inl (.inr ⟨o, e⟩)⟩
  | _ => exact h.elim
theorem ty_str {K : PySem.W.Frag} {a : W} {v : V} {g : G} {H : Hp} (h : isStr a g) (r : RV E.K H a v) (hg : GR E g H) : tyV K "str" v H := by
  cases a with
  | str p => rw [RV] at r; subst r; exact rfl
  | _ => exact h.elim
theorem l_call {c : List W → G → XK3 → VK3 → Prop} {ta : TA3} {n : Nat} {dvs : List V} {ws : List W}
    (σ : L2.St) (H : Hp) (Q : VK) (h : liftE E w (fun x s g q => ta x s g fun ws g1 => c ws g1 x q) σ H Q) :
    liftA E w ta σ H (fun vs H1 => ∃ ws g q x, RVs E.K H1 ws vs ∧ GR E g H1 ∧ c ws g x q ∧ KQ E g H1 q Q ∧ KX E g H1 x (fun cls d H' => w cls d σ H')) := by
  obtain ⟨s, g, q, x, hs, hg, h, kq, kx⟩ := h
  exact ⟨s, g, _, x, hs, hg, h, fun ws g1 vs H1 hg1 r f1 h1 => ⟨ws, g1, q, x, r, hg1, h1, kq.at f1, kx.at f1⟩, kx⟩
theorem isTrue_plain {e : Expr} (h : specialT e = false) (env : Env) (whole : Sem Value) : isTrue e env whole = (do let v ← whole; standAt e.pos; holding [v] (truthy v)) := by
  cases e with
  | UnaryOp op x p => cases op <;> first | rfl | (simp [specialT] at h)
  | _ => first | rfl | (simp [specialT] at h)
theorem ptOf {e : Expr} {t : TE3} (h : PE X e (liftE E w t)) (hs : specialT e = false) : PT X e (liftT E w (bT t)) := ptI (pt_val h (isTrue_plain hs X.env)) fun _ _ _ => l_bT
end
end L3
set_option maxRecDepth 100000
set_option maxHeartbeats 4000000
namespace L3
open PySem PySem.Spec L2
theorem ff {p : Prop} (h : false = true) : p := absurd h Bool.false_ne_true
section
variable {X : Cx} {E : Env3} {w : WX} {CF : CF3} {gl : Gs} {ck : Ck} {x : Expr}
theorem i_var {i : Nat} (h : chk (.var i) ck x = true) : ∃ y p, x = .Name y p ∧ isVar ck i y = true := by
  cases x <;> first | exact ff h | exact ⟨_, _, rfl, h⟩
theorem i_int {i : Int} (h : chk (.int i) ck x = true) : ∃ k p, x = .Constant (.int i) k p := by
  cases x <;> first | exact ff h | skip
  rename_i c k p
  cases c <;> first | exact ff h | exact ⟨k, p, by rw [of_decide_eq_true h]⟩
theorem i_str {i : Str} (h : chk (.str i) ck x = true) : ∃ k p, x = .Constant (.str i) k p := by
  cases x <;> first | exact ff h | skip
  rename_i c k p
  cases c <;> first | exact ff h | exact ⟨k, p, by rw [of_decide_eq_true h]⟩
theorem i_bl {i : Bool} (h : chk (.bl i) ck x = true) : ∃ k p, x = .Constant (.bool i) k p := by
  cases x <;> first | exact ff h | skip
  rename_i c k p
  cases c <;> first | exact ff h | exact ⟨k, p, by rw [of_decide_eq_true h]⟩
theorem i_non (h : chk .non ck x = true) : ∃ k p, x = .Constant .none k p := by
  cases x <;> first | exact ff h | skip
  rename_i c k p
  cases c <;> first | exact ff h | exact ⟨k, p, rfl⟩
theorem i_glob {i : Nat} (h : chk (.glob i) ck x = true) : ∃ y p, x = .Name y p ∧ ck.gls[i]? = some y ∧ isGl ck y = true := by
  cases x <;> first | exact ff h | skip
  obtain ⟨h1, h2⟩ := bool_and h
  exact ⟨_, _, rfl, of_decide_eq_true h1, h2⟩
theorem i_bin {o : Bo} {a b : E3} (h : chk (.bin o a b) ck x = true) : ∃ l r p, x = .BinOp l (boOf o) r p ∧ chk a ck l = true ∧ chk b ck r = true := by
  cases x <;> first | exact ff h | skip
  obtain ⟨h, h2⟩ := bool_and h
  obtain ⟨h0, h1⟩ := bool_and h
  exact ⟨_, _, _, by rw [of_decide_eq_true h0], h1, h2⟩
theorem i_neg {a : E3} (h : chk (.neg a) ck x = true) : ∃ l p, x = .UnaryOp .USub l p ∧ chk a ck l = true := by
  cases x <;> first | exact ff h | skip
  rename_i op l p
  cases op <;> first | exact ff h | exact ⟨_, _, rfl, h⟩
theorem i_not {a : E3} (h : chk (.not a) ck x = true) : ∃ l p, x = .UnaryOp .Not l p ∧ chk a ck l = true := by
  cases x <;> first | exact ff h | skip
  rename_i op l p
  cases op <;> first | exact ff h | exact ⟨_, _, rfl, h⟩
theorem i_cmp {o : Co} {a b : E3} (h : chk (.cmp o a b) ck x = true) : ∃ l r p, x = .Compare l [coOf o] [r] p ∧ chk a ck l = true ∧ chk b ck r = true ∧ behindInMarks (coOf o) r = false := by
  cases x <;> first | exact ff h | skip
  rename_i l ops rs p
  match ops, rs, h with
  | [op], [r], h =>
    obtain ⟨h, h3⟩ := bool_and h
    obtain ⟨h, h2⟩ := bool_and h
    obtain ⟨h0, h1⟩ := bool_and h
    have e := of_decide_eq_true h0
    subst e
    exact ⟨_, _, _, rfl, h1, h2, bool_not h3⟩
  | [], _, h => exact ff h
  | [_], [], h => exact ff h
  | [_], _ :: _ :: _, h => exact ff h
  | _ :: _ :: _, _, h => exact ff h
theorem i_cmp2 {o o' : Co} {a b c : E3} (h : chk (.cmp2 o o' a b c) ck x = true) : ∃ l r r' p, x = .Compare l [coOf o, coOf o'] [r, r'] p ∧ chk a ck l = true ∧ chk b ck r = true ∧ chk c ck r' = true ∧ behindInMarks (coOf o') r' = false := by
  cases x <;> first | exact ff h | skip
  rename_i l ops rs p
  match ops, rs, h with
  | [op, op'], [r, r'], h =>
    obtain ⟨h, h5⟩ := bool_and h
    obtain ⟨h, h4⟩ := bool_and h
    obtain ⟨h, h3⟩ := bool_and h
    obtain ⟨h, h2⟩ := bool_and h
    obtain ⟨h0, h1⟩ := bool_and h
    have e := of_decide_eq_true h0
    subst e
    have e := of_decide_eq_true h1
    subst e
    exact ⟨_, _, _, _, rfl, h2, h3, h4, bool_not h5⟩
  | [], _, h => exact ff h
  | [_], _, h => exact ff h
  | [_, _], [], h => exact ff h
  | [_, _], [_], h => exact ff h
  | [_, _], _ :: _ :: _ :: _, h => exact ff h
  | _ :: _ :: _ :: _, _, h => exact ff h
theorem i_cmp3 {o o' o'' : Co} {a b c d : E3} (h : chk (.cmp3 o o' o'' a b c d) ck x = true) : ∃ l r r' r'' p, x = .Compare l [coOf o, coOf o', coOf o''] [r, r', r''] p ∧ chk a ck l = true ∧ chk b ck r = true ∧ chk c ck r' = true ∧ chk d ck r'' = true ∧ behindInMarks (coOf o'') r'' = false := by
  cases x <;> first | exact ff h | skip
  rename_i l ops rs p
  match ops, rs, h with
  | [op, op', op''], [r, r', r''], h =>
    obtain ⟨h, h7⟩ := bool_and h
    obtain ⟨h, h6⟩ := bool_and h
    obtain ⟨h, h5⟩ := bool_and h
    obtain ⟨h, h4⟩ := bool_and h
    obtain ⟨h, h3⟩ := bool_and h
    obtain ⟨h, h2⟩ := bool_and h
    obtain ⟨h0, h1⟩ := bool_and h
    have e := of_decide_eq_true h0
    subst e
    have e := of_decide_eq_true h1
    subst e
    have e := of_decide_eq_true h2
    subst e
    exact ⟨_, _, _, _, _, rfl, h3, h4, h5, h6, bool_not h7⟩
  | [], _, h => exact ff h
  | [_], _, h => exact ff h
  | [_, _], _, h => exact ff h
  | [_, _, _], [], h => exact ff h
  | [_, _, _], [_], h => exact ff h
  | [_, _, _], [_, _], h => exact ff h
  | [_, _, _], _ :: _ :: _ :: _ :: _, h => exact ff h
  | _ :: _ :: _ :: _ :: _, _, h => exact ff h
theorem i_and {es : Es3} (h : chk (.and es) ck x = true) : ∃ vs p, x = .BoolOp .And vs p ∧ chks es ck vs = true := by
  cases x <;> first | exact ff h | skip
  rename_i op l p
  cases op <;> first | exact ff h | exact ⟨_, _, rfl, h⟩
theorem i_or {es : Es3} (h : chk (.or es) ck x = true) : ∃ vs p, x = .BoolOp .Or vs p ∧ chks es ck vs = true := by
  cases x <;> first | exact ff h | skip
  rename_i op l p
  cases op <;> first | exact ff h | exact ⟨_, _, rfl, h⟩
theorem i_ite {a b c : E3} (h : chk (.ite c a b) ck x = true) : ∃ t l r p, x = .IfExp t l r p ∧ chk c ck t = true ∧ chk a ck l = true ∧ chk b ck r = true := by
  cases x <;> first | exact ff h | skip
  obtain ⟨h, h2⟩ := bool_and h
  obtain ⟨h0, h1⟩ := bool_and h
  exact ⟨_, _, _, _, rfl, h0, h1, h2⟩
theorem i_lst {es : Es3} (h : chk (.lst es) ck x = true) : ∃ vs p, x = .List vs p ∧ chks es ck vs = true := by
  cases x <;> first | exact ff h | exact ⟨_, _, rfl, h⟩
theorem i_tup {es : Es3} (h : chk (.tup es) ck x = true) : ∃ vs k p, x = .Tuple vs k p ∧ chks es ck vs = true := by
  cases x <;> first | exact ff h | exact ⟨_, _, _, rfl, h⟩
theorem i_dic {t : Bool} (h : chk (.dic t) ck x = true) : ∃ p, x = .Dict [] [] p := by
  cases x <;> first | exact ff h | skip
  rename_i ks vs p
  match ks, vs, h with
  | [], [], _ => exact ⟨_, rfl⟩
  | _ :: _, _, h => exact ff h
  | [], _ :: _, h => exact ff h
theorem i_ix {a i : E3} (h : chk (.ix a i) ck x = true) : ∃ l r p, x = .Subscript l r p ∧ chk a ck l = true ∧ chk i ck r = true ∧ notSl r = true := by
  cases x <;> first | exact ff h | skip
  obtain ⟨h, h2⟩ := bool_and h
  obtain ⟨h0, h1⟩ := bool_and h
  exact ⟨_, _, _, rfl, h0, h1, h2⟩
theorem i_sl {a : E3} {lo hi : O3} (h : chk (.sl a lo hi) ck x = true) : ∃ l l1 l2 q p, x = .Subscript l (.Slice l1 l2 none q) p ∧ chk a ck l = true ∧ chko lo ck l1 = true ∧ chko hi ck l2 = true := by
  cases x <;> first | exact ff h | skip
  rename_i l r p
  cases r <;> first | exact ff h | skip
  rename_i l1 l2 st q
  match st, h with
  | none, h =>
    obtain ⟨h, h2⟩ := bool_and h
    obtain ⟨h0, h1⟩ := bool_and h
    exact ⟨_, _, _, _, _, rfl, h0, h1, h2⟩
  | some _, h => exact ff h
theorem i_call {f : Nat} {es : Es3} (h : chk (.call f es) ck x = true) : ∃ y q vs p, x = .Call (.Name y q) vs [] p ∧ ck.P[f]? = some y ∧ isGl ck y = true ∧ chks es ck vs = true ∧ ck.hot = false := by
  cases x <;> first | exact ff h | skip
  rename_i fn vs kw p
  cases fn <;> first | exact ff h | skip
  match kw, h with
  | [], h =>
    obtain ⟨h, h9⟩ := bool_and h
    obtain ⟨h, h2⟩ := bool_and h
    obtain ⟨h0, h1⟩ := bool_and h
    exact ⟨_, _, _, _, rfl, of_decide_eq_true h0, h1, h2, bool_not h9⟩
  | _ :: _, h => exact ff h
theorem i_prim {f : Pr} {es : Es3} (h : chk (.prim f es) ck x = true) : ∃ q v vs p, x = .Call (.Name (prOf f).1 q) (v :: vs) [] p ∧ isGl ck (prOf f).1 = true ∧ chks es ck (v :: vs) = true ∧ (ck.hot = false ∨ hotPr f = true) := by
  cases x <;> first | exact ff h | skip
  rename_i fn vs kw p
  cases fn <;> first | exact ff h | skip
  match vs, kw, h with
  | v :: vs, [], h =>
    obtain ⟨h, h9⟩ := bool_and h
    obtain ⟨h, h2⟩ := bool_and h
    obtain ⟨h0, h1⟩ := bool_and h
    have e := of_decide_eq_true h0
    subst e
    exact ⟨_, _, _, _, rfl, h1, h2, (Bool.or_eq_true_iff.mp h9).imp (fun z => bool_not z) id⟩
  | [], _, h => exact ff h
  | _ :: _, _ :: _, h => exact ff h
theorem i_meth {m : Mt} {o : E3} {es : Es3} (h : chk (.meth m o es) ck x = true) : ∃ l q vs p, x = .Call (.Attribute l (mtOf m) q) vs [] p ∧ plainBase l = true ∧ (q.endLine == p.line) = true ∧ chk o ck l = true ∧ chks es ck vs = true ∧ vs.length < 20 := by
  cases x <;> first | exact ff h | skip
  rename_i fn vs kw p
  cases fn <;> first | exact ff h | skip
  match kw, h with
  | [], h =>
    obtain ⟨h, h5⟩ := bool_and h
    obtain ⟨h, h4⟩ := bool_and h
    obtain ⟨h, h3⟩ := bool_and h
    obtain ⟨h, h2⟩ := bool_and h
    obtain ⟨h0, h1⟩ := bool_and h
    have e := of_decide_eq_true h0
    subst e
    exact ⟨_, _, _, _, rfl, h1, h2, h3, h4, of_decide_eq_true h5⟩
  | _ :: _, h => exact ff h
theorem i_isi {a : E3} {T : String} (h : chk (.isi a T) ck x = true) : ∃ q l q' p, x = .Call (.Name "isinstance" q) [l, .Name (Str.ofString T) q'] [] p ∧ isGl ck "isinstance" = true ∧ isGl ck (Str.ofString T) = true ∧ T ∈ tySome ∧ chk a ck l = true := by
  cases x <;> first | exact ff h | skip
  rename_i fn vs kw p
  cases fn <;> first | exact ff h | skip
  match vs, h with
  | [], h => exact ff h
  | [_], h => exact ff h
  | _ :: y :: _ :: _, h => cases y <;> exact ff h
  | [l, y], h =>
    cases y <;> first | exact ff h | skip
    match kw, h with
    | _ :: _, h => exact ff h
    | [], h =>
      obtain ⟨h, h5⟩ := bool_and h
      obtain ⟨h, h4⟩ := bool_and h
      obtain ⟨h, h3⟩ := bool_and h
      obtain ⟨h, h2⟩ := bool_and h
      obtain ⟨h0, h1⟩ := bool_and h
      have e := of_decide_eq_true h0
      subst e
      have e := of_decide_eq_true h2
      subst e
      exact ⟨_, _, _, _, rfl, h1, h3, of_decide_eq_true h4, h5⟩
theorem i_xattr {i : Nat} {f : Str} (h : chk (.xattr i f) ck x = true) : ∃ n q p, x = .Attribute (.Name n q) f p ∧ isVar ck i n = true ∧ f ∈ ck.xfl ∧ ck.hot = true := by
  cases x <;> first | exact ff h | skip
  rename_i l nm p
  cases l <;> first | exact ff h | skip
  obtain ⟨h, h3⟩ := bool_and h
  obtain ⟨h, h2⟩ := bool_and h
  obtain ⟨h0, h1⟩ := bool_and h
  have e := of_decide_eq_true h0
  subst e
  exact ⟨_, _, _, rfl, h1, of_decide_eq_true h2, h3⟩
theorem i_hcall {f : Nat} {es : Es3} (h : chk (.hcall f es) ck x = true) : ∃ y q v vs p, x = .Call (.Name y q) (v :: vs) [] p ∧ ck.hP[f]? = some (some y) ∧ isGl ck y = true ∧ chks es ck (v :: vs) = true ∧ ck.hot = true ∧ ck.inDef = true := by
  cases x <;> first | exact ff h | skip
  rename_i fn vs kw p
  cases fn <;> first | exact ff h | skip
  match vs, kw, h with
  | v :: vs, [], h =>
    obtain ⟨h, h4⟩ := bool_and h
    obtain ⟨h, h3⟩ := bool_and h
    obtain ⟨h, h2⟩ := bool_and h
    obtain ⟨h0, h1⟩ := bool_and h
    exact ⟨_, _, _, _, _, rfl, of_decide_eq_true h0, h1, h2, h3, h4⟩
  | [], _, h => exact ff h
  | _ :: _, _ :: _, h => exact ff h
theorem i_isxs {i : Nat} {ys : List (Str × List Bool)} (h : chk (.isxs i ys) ck x = true) : ∃ q n q1 es k q2 p, x = .Call (.Name "isinstance" q) [.Name n q1, .Tuple es k q2] [] p ∧ isGl ck "isinstance" = true ∧ isVar ck i n = true ∧ clsNs ck ys es = true ∧ (0 < ys.length ∧ ys.length < 100) ∧ ck.hot = true := by
  have h : (match isxOf x with
    | some (x, n, es) => decide (x = ("isinstance" : Str)) && (isGl ck x && (isVar ck i n && (clsNs ck ys es && (decide (0 < ys.length ∧ ys.length < 100) && ck.hot))))
    | none => false) = true := by
    cases x <;> exact h
  split at h
  · rename_i z n es e
    obtain ⟨q, q1, k, q2, p, rfl⟩ := isxOf_inv e
    obtain ⟨h1, h⟩ := bool_and h
    obtain ⟨h2, h⟩ := bool_and h
    obtain ⟨h3, h⟩ := bool_and h
    obtain ⟨h4, h⟩ := bool_and h
    obtain ⟨h5, h6⟩ := bool_and h
    have h1 := of_decide_eq_true h1
    subst h1
    exact ⟨q, n, q1, es, k, q2, p, rfl, h2, h3, h4, of_decide_eq_true h5, h6⟩
  · cases h
theorem i_isx {i : Nat} {y : Str} {row : List Bool} (h : chk (.isx i y row) ck x = true) : ∃ q n q1 q' p, x = .Call (.Name "isinstance" q) [.Name n q1, .Name y q'] [] p ∧ isGl ck "isinstance" = true ∧ isGl ck y = true ∧ isVar ck i n = true ∧ (y, row) ∈ ck.cs ∧ ck.hot = true := by
  cases x <;> first | exact ff h | skip
  rename_i fn vs kw p
  cases fn <;> first | exact ff h | skip
  match vs, h with
  | [], h => exact ff h
  | [a], h => cases a <;> exact ff h
  | a :: b :: _ :: _, h => cases a <;> cases b <;> exact ff h
  | [a, b], h =>
    cases a <;> first | exact ff h | skip
    cases b <;> first | exact ff h | skip
    match kw, h with
    | _ :: _, h => exact ff h
    | [], h =>
      obtain ⟨h, h6⟩ := bool_and h
      obtain ⟨h, h5⟩ := bool_and h
      obtain ⟨h, h4⟩ := bool_and h
      obtain ⟨h, h3⟩ := bool_and h
      obtain ⟨h, h2⟩ := bool_and h
      obtain ⟨h0, h1⟩ := bool_and h
      have e := of_decide_eq_true h0
      subst e
      have e := of_decide_eq_true h2
      subst e
      exact ⟨_, _, _, _, _, rfl, h1, h3, h4, of_decide_eq_true h5, h6⟩
theorem i_lc {elt : E3} {tg : T3} {it : I3} {c : O3} {own : List Nat} (h : chk (.lc elt tg it c own) ck x = true) : ∃ e tg' it' ifs scope p, x = .ListComp e [⟨tg', it', ifs, 0⟩] scope p ∧
    blkC ck.N ck.sc scope (own.filterMap fun i => ck.N[i]?.map fun x => (x, i)) = true ∧ (∀ i ∈ tIs tg, i ∈ own) ∧ (∀ i ∈ own, i < ck.N.length) ∧ (tIs tg).Nodup ∧ chki it ck (isTupE tg') it' = true ∧
    chkT (ck.inner scope) tg tg' = true ∧ chk elt (ck.inner scope) e = true ∧ chkc c (ck.inner scope) ifs = true ∧ ck.hot = false := by
  cases x <;> first | exact ff h | skip
  rename_i e gens scope p
  match gens, h with
  | [⟨tg', it', ifs, 0⟩], h =>
    obtain ⟨h, h9⟩ := bool_and h
    obtain ⟨h, h8⟩ := bool_and h
    obtain ⟨h, h7⟩ := bool_and h
    obtain ⟨h, h6⟩ := bool_and h
    obtain ⟨h, h5⟩ := bool_and h
    obtain ⟨h, h4⟩ := bool_and h
    obtain ⟨h, h3⟩ := bool_and h
    obtain ⟨h1, h2⟩ := bool_and h
    exact ⟨_, _, _, _, _, _, rfl, h1, fun i hi => of_decide_eq_true (List.all_eq_true.mp h2 i hi), fun i hi => of_decide_eq_true (List.all_eq_true.mp h3 i hi), of_decide_eq_true h4, h5, h6, h7, h8, bool_not h9⟩
  | [], h => exact ff h
  | ⟨_, _, _, .ofNat 0⟩ :: _ :: _, h => exact ff h
  | ⟨_, _, _, .ofNat (n + 1)⟩ :: _ :: _, h => exact ff h
  | ⟨_, _, _, .negSucc n⟩ :: _ :: _, h => exact ff h
  | [⟨_, _, _, .ofNat (n + 1)⟩], h => exact ff h
  | [⟨_, _, _, .negSucc n⟩], h => exact ff h
theorem i_lcK {elt : E3} {tg : T3} {it : I3} {c : O3} {own : List Nat} (h : chk (.lcK elt tg it c own) ck x = true) : ∃ e tg' it' ifs scope p, x = .ListComp e [⟨tg', it', ifs, 0⟩] scope p ∧
    blkC ck.N ck.sc scope (own.filterMap fun i => ck.N[i]?.map fun x => (x, i)) = true ∧ (∀ i ∈ tIs tg, i ∈ own) ∧ (∀ i ∈ own, i < ck.N.length) ∧ (tIs tg).Nodup ∧ chki it ck (isTupE tg') it' = true ∧
    chkT (ck.inner scope) tg tg' = true ∧ chk elt (ck.inner scope) e = true ∧ chkc c (ck.inner scope) ifs = true ∧ ck.hot = false := by
  cases x <;> first | exact ff h | skip
  rename_i e gens scope p
  match gens, h with
  | [⟨tg', it', ifs, 0⟩], h =>
    obtain ⟨h, h9⟩ := bool_and h
    obtain ⟨h, h8⟩ := bool_and h
    obtain ⟨h, h7⟩ := bool_and h
    obtain ⟨h, h6⟩ := bool_and h
    obtain ⟨h, h5⟩ := bool_and h
    obtain ⟨h, h4⟩ := bool_and h
    obtain ⟨h, h3⟩ := bool_and h
    obtain ⟨h1, h2⟩ := bool_and h
    exact ⟨_, _, _, _, _, _, rfl, h1, fun i hi => of_decide_eq_true (List.all_eq_true.mp h2 i hi), fun i hi => of_decide_eq_true (List.all_eq_true.mp h3 i hi), of_decide_eq_true h4, h5, h6, h7, h8, bool_not h9⟩
  | [], h => exact ff h
  | ⟨_, _, _, .ofNat 0⟩ :: _ :: _, h => exact ff h
  | ⟨_, _, _, .ofNat (n + 1)⟩ :: _ :: _, h => exact ff h
  | ⟨_, _, _, .negSucc n⟩ :: _ :: _, h => exact ff h
  | [⟨_, _, _, .ofNat (n + 1)⟩], h => exact ff h
  | [⟨_, _, _, .negSucc n⟩], h => exact ff h
theorem i_dget1 {o e : E3} (h : chk (.dget1 o e) ck x = true) : ∃ l q v p, x = .Call (.Attribute l "get" q) [v] [] p ∧ plainBase l = true ∧ (q.endLine == p.line) = true ∧ chk o ck l = true ∧ chk e ck v = true ∧ plainE v = true := by
  cases x <;> first | exact ff h | skip
  rename_i fn vs kw p
  cases fn <;> first | exact ff h | skip
  match vs, kw, h with
  | [v], [], h =>
    obtain ⟨h, h5⟩ := bool_and h
    obtain ⟨h, h4⟩ := bool_and h
    obtain ⟨h, h3⟩ := bool_and h
    obtain ⟨h, h2⟩ := bool_and h
    obtain ⟨h0, h1⟩ := bool_and h
    have e := of_decide_eq_true h0
    subst e
    exact ⟨_, _, _, _, rfl, h1, h2, h3, h4, h5⟩
  | [], _, h => exact ff h
  | [_], _ :: _, h => exact ff h
  | _ :: _ :: _, _, h => exact ff h
theorem i_dpop1 {o e : E3} (h : chk (.dpop1 o e) ck x = true) : ∃ l q v p, x = .Call (.Attribute l "pop" q) [v] [] p ∧ plainBase l = true ∧ (q.endLine == p.line) = true ∧ chk o ck l = true ∧ chk e ck v = true ∧ plainE v = true := by
  cases x <;> first | exact ff h | skip
  rename_i fn vs kw p
  cases fn <;> first | exact ff h | skip
  match vs, kw, h with
  | [v], [], h =>
    obtain ⟨h, h5⟩ := bool_and h
    obtain ⟨h, h4⟩ := bool_and h
    obtain ⟨h, h3⟩ := bool_and h
    obtain ⟨h, h2⟩ := bool_and h
    obtain ⟨h0, h1⟩ := bool_and h
    have e := of_decide_eq_true h0
    subst e
    exact ⟨_, _, _, _, rfl, h1, h2, h3, h4, h5⟩
  | [], _, h => exact ff h
  | [_], _ :: _, h => exact ff h
  | _ :: _ :: _, _, h => exact ff h
theorem i_dget2 {o e d : E3} (h : chk (.dget2 o e d) ck x = true) : ∃ l q v u p, x = .Call (.Attribute l "get" q) [v, u] [] p ∧ plainBase l = true ∧ (q.endLine == p.line) = true ∧ chk o ck l = true ∧ chk e ck v = true ∧ chk d ck u = true ∧ plainE v = true ∧ plainE u = true := by
  cases x <;> first | exact ff h | skip
  rename_i fn vs kw p
  cases fn <;> first | exact ff h | skip
  match vs, kw, h with
  | [v, u], [], h =>
    obtain ⟨h, h7⟩ := bool_and h
    obtain ⟨h, h6⟩ := bool_and h
    obtain ⟨h, h5⟩ := bool_and h
    obtain ⟨h, h4⟩ := bool_and h
    obtain ⟨h, h3⟩ := bool_and h
    obtain ⟨h, h2⟩ := bool_and h
    obtain ⟨h0, h1⟩ := bool_and h
    have e := of_decide_eq_true h0
    subst e
    exact ⟨_, _, _, _, _, rfl, h1, h2, h3, h4, h5, h6, h7⟩
  | [], _, h => exact ff h
  | [_], _, h => exact ff h
  | [_, _], _ :: _, h => exact ff h
  | _ :: _ :: _ :: _, _, h => exact ff h
theorem i_dsetd {o e d : E3} (h : chk (.dsetd o e d) ck x = true) : ∃ l q v u p, x = .Call (.Attribute l "setdefault" q) [v, u] [] p ∧ plainBase l = true ∧ (q.endLine == p.line) = true ∧ chk o ck l = true ∧ chk e ck v = true ∧ chk d ck u = true ∧ plainE v = true ∧ plainE u = true := by
  cases x <;> first | exact ff h | skip
  rename_i fn vs kw p
  cases fn <;> first | exact ff h | skip
  match vs, kw, h with
  | [v, u], [], h =>
    obtain ⟨h, h7⟩ := bool_and h
    obtain ⟨h, h6⟩ := bool_and h
    obtain ⟨h, h5⟩ := bool_and h
    obtain ⟨h, h4⟩ := bool_and h
    obtain ⟨h, h3⟩ := bool_and h
    obtain ⟨h, h2⟩ := bool_and h
    obtain ⟨h0, h1⟩ := bool_and h
    have e := of_decide_eq_true h0
    subst e
    exact ⟨_, _, _, _, _, rfl, h1, h2, h3, h4, h5, h6, h7⟩
  | [], _, h => exact ff h
  | [_], _, h => exact ff h
  | [_, _], _ :: _, h => exact ff h
  | _ :: _ :: _ :: _, _, h => exact ff h
theorem i_mxd {mn : Bool} {a d : E3} (h : chk (.mxd mn a d) ck x = true) : ∃ q v u kp p, x = .Call (.Name (if mn = true then ("min" : Str) else ("max" : Str)) q) [v] [⟨some "default", u, kp⟩] p ∧ isGl ck (if mn = true then ("min" : Str) else ("max" : Str)) = true ∧ chk a ck v = true ∧ chk d ck u = true ∧ plainE v = true ∧ ck.hot = false := by
  cases x <;> first | exact ff h | skip
  rename_i fn vs kw p
  cases fn <;> first | exact ff h | skip
  match vs, kw, h with
  | [v], [⟨some k, u, kp⟩], h =>
    obtain ⟨h, h7⟩ := bool_and h
    obtain ⟨h, h6⟩ := bool_and h
    obtain ⟨h, h5⟩ := bool_and h
    obtain ⟨h, h4⟩ := bool_and h
    obtain ⟨h, h3⟩ := bool_and h
    obtain ⟨h0, h1⟩ := bool_and h
    have e := of_decide_eq_true h0
    subst e
    have e := of_decide_eq_true h3
    subst e
    exact ⟨_, _, _, _, _, rfl, h1, h4, h5, h6, bool_not h7⟩
  | [_], [⟨none, _, _⟩], h => exact ff h
  | [], _, h => exact ff h
  | [_], [], h => exact ff h
  | [_], ⟨some _, _, _⟩ :: _ :: _, h => exact ff h
  | [_], ⟨none, _, _⟩ :: _ :: _, h => exact ff h
  | _ :: _ :: _, _, h => exact ff h
theorem i_lrev {a : E3} (h : chk (.lrev a) ck x = true) : ∃ q q2 v p2 p, x = .Call (.Name "list" q) [.Call (.Name "reversed" q2) [v] [] p2] [] p ∧ isGl ck "list" = true ∧ isGl ck "reversed" = true ∧ chk a ck v = true ∧ plainE v = true ∧ ck.hot = false := by
  have h' : (match lrevOf x with
    | some (x, y, v) => decide (x = ("list" : Str)) && isGl ck x && decide (y = ("reversed" : Str)) && isGl ck y && chk a ck v && plainE v && !ck.hot
    | none => false) = true := h
  cases e : lrevOf x with
  | none => rw [e] at h'; exact ff h'
  | some t =>
    obtain ⟨x1, y, v⟩ := t
    rw [e] at h'
    obtain ⟨q, q2, p2, p, rfl⟩ := lrevOf_inv e
    obtain ⟨h, h6⟩ := bool_and h'
    obtain ⟨h, h5⟩ := bool_and h
    obtain ⟨h, h4⟩ := bool_and h
    obtain ⟨h, h3⟩ := bool_and h
    obtain ⟨h, h2⟩ := bool_and h
    obtain ⟨h0, h1⟩ := bool_and h
    have e := of_decide_eq_true h0
    subst e
    have e := of_decide_eq_true h2
    subst e
    exact ⟨_, _, _, _, _, rfl, h1, h3, h4, h5, bool_not h6⟩
theorem i_lset {a : E3} (h : chk (.lset a) ck x = true) : ∃ q q2 v p2 p, x = .Call (.Name "len" q) [.Call (.Name "set" q2) [v] [] p2] [] p ∧ isGl ck "len" = true ∧ isGl ck "set" = true ∧ chk a ck v = true ∧ plainE v = true ∧ ck.hot = false := by
  have h' : (match lrevOf x with
    | some (x, y, v) => decide (x = ("len" : Str)) && isGl ck x && decide (y = ("set" : Str)) && isGl ck y && chk a ck v && plainE v && !ck.hot
    | none => false) = true := h
  cases e : lrevOf x with
  | none => rw [e] at h'; exact ff h'
  | some t =>
    obtain ⟨x1, y, v⟩ := t
    rw [e] at h'
    obtain ⟨q, q2, p2, p, rfl⟩ := lrevOf_inv e
    obtain ⟨h, h6⟩ := bool_and h'
    obtain ⟨h, h5⟩ := bool_and h
    obtain ⟨h, h4⟩ := bool_and h
    obtain ⟨h, h3⟩ := bool_and h
    obtain ⟨h, h2⟩ := bool_and h
    obtain ⟨h0, h1⟩ := bool_and h
    have e := of_decide_eq_true h0
    subst e
    have e := of_decide_eq_true h2
    subst e
    exact ⟨_, _, _, _, _, rfl, h1, h3, h4, h5, bool_not h6⟩
theorem i_sset {a : E3} (h : chk (.sset a) ck x = true) : ∃ q q2 v p2 p, x = .Call (.Name "sorted" q) [.Call (.Name "set" q2) [v] [] p2] [] p ∧ isGl ck "sorted" = true ∧ isGl ck "set" = true ∧ chk a ck v = true ∧ plainE v = true ∧ ck.hot = false := by
  have h' : (match lrevOf x with
    | some (x, y, v) => decide (x = ("sorted" : Str)) && isGl ck x && decide (y = ("set" : Str)) && isGl ck y && chk a ck v && plainE v && !ck.hot
    | none => false) = true := h
  cases e : lrevOf x with
  | none => rw [e] at h'; exact ff h'
  | some t =>
    obtain ⟨x1, y, v⟩ := t
    rw [e] at h'
    obtain ⟨q, q2, p2, p, rfl⟩ := lrevOf_inv e
    obtain ⟨h, h6⟩ := bool_and h'
    obtain ⟨h, h5⟩ := bool_and h
    obtain ⟨h, h4⟩ := bool_and h
    obtain ⟨h, h3⟩ := bool_and h
    obtain ⟨h, h2⟩ := bool_and h
    obtain ⟨h0, h1⟩ := bool_and h
    have e := of_decide_eq_true h0
    subst e
    have e := of_decide_eq_true h2
    subst e
    exact ⟨_, _, _, _, _, rfl, h1, h3, h4, h5, bool_not h6⟩
theorem i_dic1 {k v : E3} (h : chk (.dic1 k v) ck x = true) : ∃ a b p, x = .Dict [some a] [b] p ∧ chk k ck a = true ∧ chk v ck b = true := by
  cases x <;> first | exact ff h | skip
  rename_i ks vs p
  match ks, vs, h with
  | [some a], [b], h => obtain ⟨h1, h2⟩ := bool_and h; exact ⟨_, _, _, rfl, h1, h2⟩
  | [], _, h => exact ff h
  | [none], _, h => exact ff h
  | [some _], [], h => exact ff h
  | [some _], _ :: _ :: _, h => exact ff h
  | some _ :: _ :: _, _, h => exact ff h
  | none :: _ :: _, _, h => exact ff h
theorem i_dic2 {k v k2 v2 : E3} (h : chk (.dic2 k v k2 v2) ck x = true) : ∃ a b a2 b2 p, x = .Dict [some a, some a2] [b, b2] p ∧ chk k ck a = true ∧ chk v ck b = true ∧ chk k2 ck a2 = true ∧ chk v2 ck b2 = true := by
  cases x <;> first | exact ff h | skip
  rename_i ks vs p
  match ks, vs, h with
  | [some a, some a2], [b, b2], h =>
    obtain ⟨h, h4⟩ := bool_and h
    obtain ⟨h, h3⟩ := bool_and h
    obtain ⟨h1, h2⟩ := bool_and h
    exact ⟨_, _, _, _, _, rfl, h1, h2, h3, h4⟩
  | [], _, h => exact ff h
  | [none], _, h => exact ff h
  | [some _], _, h => exact ff h
  | none :: _ :: _, _, h => exact ff h
  | some _ :: none :: _, _, h => exact ff h
  | some _ :: some _ :: _ :: _, _, h => exact ff h
  | [some _, some _], [], h => exact ff h
  | [some _, some _], [_], h => exact ff h
  | [some _, some _], _ :: _ :: _ :: _, h => exact ff h
theorem i_frz {e : E3} (h : chk (.frz e) ck x = true) : specialT x = false ∧ chk e ck x = true := by
  have h' : (!(specialT x) && chk e ck x) = true := by cases x <;> exact h
  obtain ⟨h1, h2⟩ := bool_and h'
  exact ⟨bool_not h1, h2⟩
theorem i_attr {o : E3} {f : Str} (h : chk (.attr o f) ck x = true) : ∃ l p, x = .Attribute l f p ∧ plainBase l = true ∧ f ∈ ck.fl ∧ chk o ck l = true := by
  cases x <;> first | exact ff h | skip
  rename_i l name p
  obtain ⟨h, h4⟩ := bool_and h
  obtain ⟨h, h3⟩ := bool_and h
  obtain ⟨h1, h2⟩ := bool_and h
  have e := of_decide_eq_true h1
  subst e
  exact ⟨_, _, rfl, h2, of_decide_eq_true h3, h4⟩
theorem i_mcall {o : E3} {m : Str} {es : Es3} (h : chk (.mcall o m es) ck x = true) : ∃ l q vs p, x = .Call (.Attribute l m q) vs [] p ∧ plainBase l = true ∧ (q.endLine == p.line) = true ∧ m ∉ ck.fl ∧ chk o ck l = true ∧ chks es ck vs = true ∧ vs.length < 20 ∧ ck.hot = false := by
  cases x <;> first | exact ff h | skip
  rename_i fn vs kw p
  cases fn <;> first | exact ff h | skip
  match kw, h with
  | [], h =>
    obtain ⟨h, h8⟩ := bool_and h
    obtain ⟨h, h7⟩ := bool_and h
    obtain ⟨h, h6⟩ := bool_and h
    obtain ⟨h, h5⟩ := bool_and h
    obtain ⟨h, h4⟩ := bool_and h
    obtain ⟨h, h3⟩ := bool_and h
    obtain ⟨h1, h2⟩ := bool_and h
    have e := of_decide_eq_true h1
    subst e
    exact ⟨_, _, _, _, rfl, h2, h3, of_decide_eq_true h4, h5, h6, of_decide_eq_true h7, bool_not h8⟩
  | _ :: _, h => exact ff h
theorem i_new {c f : Nat} {es : Es3} (h : chk (.new c f es) ck x = true) : ∃ y q vs p oc, x = .Call (.Name y q) vs [] p ∧ ck.ocs[c]? = some oc ∧ oc.name = y ∧ oc.init = f ∧ isGl ck y = true ∧ chks es ck vs = true ∧ ck.hot = false := by
  cases x <;> first | exact ff h | skip
  rename_i fn vs kw p
  cases fn <;> first | exact ff h | skip
  rename_i y q
  match kw, h with
  | [], h =>
    have h' : ((match ck.ocs[c]? with | some oc => decide (oc.name = y) && decide (oc.init = f) | none => false) && isGl ck y && chks es ck vs && !ck.hot) = true := by cases vs <;> exact h
    obtain ⟨h, h4⟩ := bool_and h'
    obtain ⟨h, h3⟩ := bool_and h
    obtain ⟨h1, h2⟩ := bool_and h
    split at h1
    · rename_i oc e
      obtain ⟨k1, k2⟩ := bool_and h1
      exact ⟨_, _, _, _, oc, rfl, e, of_decide_eq_true k1, of_decide_eq_true k2, h2, h3, bool_not h4⟩
    · cases h1
  | _ :: _, h => cases vs <;> exact ff h
theorem i_fmt {e : E3} (h : chk (.fmt e) ck x = true) : ∃ v p, x = .FormattedValue v (-1) none p ∧ chk e ck v = true := by
  cases x <;> first | exact ff h | skip
  rename_i v k sp p
  match k, sp, h with
  | -1, none, h => exact ⟨_, _, rfl, h⟩
  | -1, some _, h => exact ff h
  | .ofNat _, none, h => exact ff h
  | .ofNat _, some _, h => exact ff h
  | .negSucc (n + 1), none, h => exact ff h
  | .negSucc (n + 1), some _, h => exact ff h
theorem i_fstr {es : Es3} (h : chk (.fstr es) ck x = true) : ∃ v1 v2 vs p, x = .JoinedStr (v1 :: v2 :: vs) p ∧ chkf es ck (v1 :: v2 :: vs) = true := by
  cases x <;> first | exact ff h | skip
  rename_i vs p
  match vs, h with
  | v1 :: v2 :: vs, h => exact ⟨_, _, _, _, rfl, h⟩
  | [], h => exact ff h
  | [_], h => exact ff h
theorem i_nev (h : chk .nev ck x = true) : specialT x = false ∧ plainE x = true := by
  have h' : (!(specialT x) && plainE x && nevOk x) = true := by cases x <;> exact h
  obtain ⟨h, _⟩ := bool_and h'
  obtain ⟨h1, h2⟩ := bool_and h
  exact ⟨bool_not h1, h2⟩
theorem i_ccall {c f : Nat} {m : Str} {es : Es3} (h : chk (.ccall c f m es) ck x = true) : ∃ y q apos v vs p oc, x = .Call (.Attribute (.Name y q) "__init__" apos) (v :: vs) [] p ∧ ck.ocs[c]? = some oc ∧ oc.name = y ∧ oc.init = f ∧ isGl ck y = true ∧ (apos.endLine == p.line) = true ∧ chks es ck (v :: vs) = true ∧ (v :: vs).length < 20 ∧ ck.hot = false := by
  cases x <;> first | exact ff h | skip
  rename_i fn vs kw p
  cases fn <;> first | exact ff h | skip
  rename_i l name apos
  cases l <;> first | exact ff h | skip
  rename_i y q
  match vs, kw, h with
  | v :: vs, [], h =>
    obtain ⟨h, h8⟩ := bool_and h
    obtain ⟨h, h7⟩ := bool_and h
    obtain ⟨h, h6⟩ := bool_and h
    obtain ⟨h, h5⟩ := bool_and h
    obtain ⟨h, h4⟩ := bool_and h
    obtain ⟨h, h3⟩ := bool_and h
    obtain ⟨h1, h2⟩ := bool_and h
    have e := of_decide_eq_true h2
    subst e
    have e7 := of_decide_eq_true h7
    subst e7
    split at h1
    · rename_i oc e
      obtain ⟨k1, k2⟩ := bool_and h1
      rw [if_pos rfl] at k2
      exact ⟨y, q, apos, v, vs, p, oc, rfl, e, of_decide_eq_true k1, of_decide_eq_true k2, h3, h4, h5, of_decide_eq_true h6, bool_not h8⟩
    · cases h1
  | [], _, h => exact ff h
  | _ :: _, _ :: _, h => exact ff h
theorem i_isc {a : E3} {y : Str} {row : List Bool} (h : chk (.isc a y row) ck x = true) : ∃ q l q' p, x = .Call (.Name "isinstance" q) [l, .Name y q'] [] p ∧ isGl ck "isinstance" = true ∧ isGl ck y = true ∧ (y, row) ∈ ck.ics ∧ chk a ck l = true := by
  have h' : (match iscOf x with
    | some (x, l, t) => decide (x = ("isinstance" : Str)) && isGl ck x && decide (t = y) && isGl ck t && decide ((y, row) ∈ ck.ics) && chk a ck l
    | none => false) = true := h
  cases e : iscOf x with
  | none => rw [e] at h'; exact ff h'
  | some t =>
    obtain ⟨x1, l, t1⟩ := t
    rw [e] at h'
    obtain ⟨q, q2, p, rfl⟩ := iscOf_inv e
    obtain ⟨h, h6⟩ := bool_and h'
    obtain ⟨h, h5⟩ := bool_and h
    obtain ⟨h, h4⟩ := bool_and h
    obtain ⟨h, h3⟩ := bool_and h
    obtain ⟨h1, h2⟩ := bool_and h
    have e1 := of_decide_eq_true h1
    subst e1
    have e2 := of_decide_eq_true h3
    subst e2
    exact ⟨_, _, _, _, rfl, h2, h4, of_decide_eq_true h5, h6⟩
end
end L3
set_option maxRecDepth 100000
set_option maxHeartbeats 4000000
namespace L3
open PySem PySem.Spec L2
def ItOk (E : Env3) (g0 : G) (H0 : Hp) (J : It) (items : List W) (ok : G → Prop) : Prop :=
  ∀ (i : Nat) (g : G) (H : Hp), GR E g H → FK g0 H0 g H → ok g → (∀ w, items[i]? = some w → J.go i H ∧ ∀ x H', J.yld i H x H' → RV E.K H' w x ∧ GR E g H' ∧ FK g H g H') ∧ (items.length ≤ i → J.stop i H)
def liftI (E : Env3) (w : WX) (t : TI3) : TI := fun σ H R => ∃ s g r x, SR E.K H s σ ∧ GR E g H ∧ t x s g r ∧
  (∀ items ok g' J H', GR E g' H' → FK g H g' H' → ItOk E g' H' J items ok → r items ok g' → R J H') ∧ KX E g H x (fun cls d H' => w cls d σ H')
section
variable {X : Cx} {E : Env3} {w : WX}
theorem it_list {K : PySem.W.Frag} {g0 : G} {H0 : Hp} {a : Addr} {xs : List W} (hK : K = E.K) : ItOk E g0 H0 (Itl K a) xs (fun g' => g' a = some (.lst xs)) := by
  intro i g H hg f ok
  obtain ⟨ys, f1, r1⟩ := hg _ _ ok
  refine ⟨fun u e => ?_, fun hl => ⟨ys, SqL.of f1, by rw [r1.length]; exact hl⟩⟩
  obtain ⟨v, e1, rv⟩ := r1.get e
  refine ⟨⟨ys, v, SqL.of f1, e1⟩, fun x H' y => ?_⟩
  obtain ⟨eH, y⟩ := y
  subst eH
  have e2 := y ys (SqL.of f1)
  rw [e1] at e2
  cases e2
  exact ⟨rv, hg, FK.refl⟩
theorem it_scr {g0 : G} {H0 : Hp} {a : Addr} {xs : List W} {ys : List V} (h0 : GR E g0 H0) (hf : FrL E.K H0 a ys) (r : RVs E.K H0 xs ys) : ItOk E g0 H0 (Itl E.K a) xs (fun _ => True) := by
  intro i g H hg f ok
  have t := f.tk h0
  have q : SqL E.K H a ys := (t.frl hf).sq
  refine ⟨fun u e => ?_, fun hl => ⟨ys, q, by rw [r.length]; exact hl⟩⟩
  obtain ⟨v, e1, rv⟩ := r.get e
  refine ⟨⟨ys, v, q, e1⟩, fun x H' y => ?_⟩
  obtain ⟨eH, y⟩ := y
  subst eH
  have e2 := y ys q
  rw [e1] at e2
  cases e2
  exact ⟨rv.keep t, hg, FK.refl⟩
theorem it_tup {K : PySem.W.Frag} {g0 : G} {H0 : Hp} {a : Addr} {xs : List W} {ys : List V} (h0 : GR E g0 H0) (hf : H0 a = some (.tup ys)) (r : RVs E.K H0 xs ys) : ItOk E g0 H0 (Itt K a) xs (fun _ => True) := by
  intro i g H hg f ok
  have t := f.tk h0
  have q : SqT K H a ys := SqT.of (t.tup _ _ hf)
  refine ⟨fun u e => ?_, fun hl => ⟨ys, q, by rw [r.length]; exact hl⟩⟩
  obtain ⟨v, e1, rv⟩ := r.get e
  refine ⟨⟨ys, v, q, e1⟩, fun x H' y => ?_⟩
  obtain ⟨eH, y⟩ := y
  subst eH
  have e2 := y ys q
  rw [e1] at e2
  cases e2
  exact ⟨rv.keep t, hg, FK.refl⟩
theorem it_rngD {g0 : G} {H0 : Hp} {lo : Int} {n : Nat} : ItOk E g0 H0 (Itc lo (-1) n) (rngDW lo n) (fun _ => True) := by
  intro i g H hg f ok
  refine ⟨fun u e => ?_, fun hl => show n ≤ i by simpa [rngDW] using hl⟩
  have hi : i < n := by
    have := (List.getElem?_eq_some_iff.mp e).1
    simpa [rngDW] using this
  have eu : u = .int (lo + (i : Nat) * (-1)) := by
    simp [rngDW, hi] at e
    rw [← e]; congr 1; omega
  subst eu
  refine ⟨hi, fun x H' y => ?_⟩
  obtain ⟨eH, rfl⟩ := y
  subst eH
  exact ⟨by rw [RV], hg, FK.refl⟩
theorem it_rng {g0 : G} {H0 : Hp} {lo : Int} {n : Nat} : ItOk E g0 H0 (Itr lo n) (rngW lo n) (fun _ => True) := by
  intro i g H hg f ok
  refine ⟨fun u e => ?_, fun hl => show n ≤ i by simpa [rngW] using hl⟩
  have hi : i < n := by
    have := (List.getElem?_eq_some_iff.mp e).1
    simpa [rngW] using this
  have eu : u = .int (lo + (i : Nat)) := by
    simp [rngW, hi] at e
    exact e.symm
  subst eu
  refine ⟨hi, fun x H' y => ?_⟩
  obtain ⟨eH, rfl⟩ := y
  subst eH
  exact ⟨by rw [RV], hg, FK.refl⟩
theorem it_str {g0 : G} {H0 : Hp} {z : Str} : ItOk E g0 H0 (Its z) (z.cps.toList.map fun c => .str ⟨#[c]⟩) (fun _ => True) := by
  intro i g H hg f ok
  refine ⟨fun u e => ?_, fun hl => show z.cps.size ≤ i by simpa using hl⟩
  have hi : i < z.cps.size := by
    have := (List.getElem?_eq_some_iff.mp e).1
    simpa using this
  refine ⟨hi, fun x H' y => ?_⟩
  obtain ⟨eH, c, ec, rfl⟩ := y
  subst eH
  have eu : u = .str ⟨#[c]⟩ := by
    rw [List.getElem?_map] at e
    rw [← Array.getElem?_toList] at ec
    rw [ec] at e
    simpa using e.symm
  subst eu
  exact ⟨by rw [RV], hg, FK.refl⟩
theorem it_revL {K : PySem.W.Frag} {g0 : G} {H0 : Hp} {a : Addr} {xs : List W} : ItOk E g0 H0 (Itv K a xs.length) xs.reverse (fun g' => g' a = some (.lst xs)) := by
  intro i g H hg f ok
  obtain ⟨ys, f1, r1⟩ := hg _ _ ok
  refine ⟨fun u e => ?_, fun hl => show xs.length ≤ i by simpa using hl⟩
  have hi : i < xs.length := by
    have := (List.getElem?_eq_some_iff.mp e).1
    simpa using this
  rw [List.getElem?_reverse hi] at e
  obtain ⟨v, e1, rv⟩ := r1.get e
  refine ⟨⟨hi, ys, v, SqL.of f1, e1⟩, fun x H' y => ?_⟩
  obtain ⟨eH, y⟩ := y
  subst eH
  have e2 := y ys (SqL.of f1)
  rw [e1] at e2
  cases e2
  exact ⟨rv, hg, FK.refl⟩
theorem it_revS {g0 : G} {H0 : Hp} {a : Addr} {xs : List W} {ys : List V} (h0 : GR E g0 H0) (hf : FrL E.K H0 a ys) (r : RVs E.K H0 xs ys) : ItOk E g0 H0 (Itv E.K a xs.length) xs.reverse (fun _ => True) := by
  intro i g H hg f ok
  have t := f.tk h0
  have q : SqL E.K H a ys := (t.frl hf).sq
  refine ⟨fun u e => ?_, fun hl => show xs.length ≤ i by simpa using hl⟩
  have hi : i < xs.length := by
    have := (List.getElem?_eq_some_iff.mp e).1
    simpa using this
  rw [List.getElem?_reverse hi] at e
  obtain ⟨v, e1, rv⟩ := r.get e
  refine ⟨⟨hi, ys, v, q, e1⟩, fun x H' y => ?_⟩
  obtain ⟨eH, y⟩ := y
  subst eH
  have e2 := y ys q
  rw [e1] at e2
  cases e2
  exact ⟨rv.keep t, hg, FK.refl⟩
theorem it_revT {K : PySem.W.Frag} {g0 : G} {H0 : Hp} {a : Addr} {xs : List W} {ys : List V} (h0 : GR E g0 H0) (hf : H0 a = some (.tup ys)) (r : RVs E.K H0 xs ys) : ItOk E g0 H0 (RT.ItvT K a xs.length) xs.reverse (fun _ => True) := by
  intro i g H hg f ok
  have t := f.tk h0
  have q : SqT K H a ys := SqT.of (t.tup _ _ hf)
  refine ⟨fun u e => ?_, fun hl => show xs.length ≤ i by simpa using hl⟩
  have hi : i < xs.length := by
    have := (List.getElem?_eq_some_iff.mp e).1
    simpa using this
  rw [List.getElem?_reverse hi] at e
  obtain ⟨v, e1, rv⟩ := r.get e
  refine ⟨⟨hi, ys, v, q, e1⟩, fun x H' y => ?_⟩
  obtain ⟨eH, y⟩ := y
  subst eH
  have e2 := y ys q
  rw [e1] at e2
  cases e2
  exact ⟨rv.keep t, hg, FK.refl⟩
theorem enumW_get {xs : List W} {i : Nat} {u : W} (e : (enumW xs)[i]? = some u) : ∃ x, xs[i]? = some x ∧ u = .tup [.int ((i : Nat) : Int), x] := by
  unfold enumW at e
  rw [List.getElem?_map, List.getElem?_zipIdx] at e
  cases h : xs[i]? with
  | none => rw [h] at e; cases e
  | some x => rw [h] at e; simp at e; exact ⟨x, rfl, e.symm⟩
theorem it_enum {K : PySem.W.Frag} {g0 : G} {H0 : Hp} {a : Addr} {xs : List W} {ok : G → Prop}
    (rd : ∀ g H, GR E g H → FK g0 H0 g H → ok g → ∃ ys, SqL K H a ys ∧ RVs E.K H xs ys) : ItOk E g0 H0 (Ite K a) (enumW xs) ok := by
  intro i g H hg f hk
  obtain ⟨ys, q, r⟩ := rd g H hg f hk
  refine ⟨fun u e => ?_, fun hl => ⟨ys, q, by rw [r.length]; simpa [enumW] using hl⟩⟩
  obtain ⟨x, ex, rfl⟩ := enumW_get e
  obtain ⟨v, e1, rv⟩ := r.get ex
  refine ⟨⟨ys, v, q, e1⟩, fun z H' y => ?_⟩
  obtain ⟨T, x', rfl, hT, rfl, y⟩ := y
  have e2 := y ys q
  rw [e1] at e2
  cases e2
  exact ⟨rv_tup upd_same (.cons rv_int (.cons (rv.keep (TK.new hT)) .nil)), hg.new' hT, FK.new' hT⟩
theorem it_zip {K : PySem.W.Frag} {g0 : G} {H0 : Hp} {a b : Addr} {xs zs : List W} {ok : G → Prop}
    (rd : ∀ g H, GR E g H → FK g0 H0 g H → ok g → (∃ ys, SqL K H a ys ∧ RVs E.K H xs ys) ∧ ∃ ys, SqL K H b ys ∧ RVs E.K H zs ys) : ItOk E g0 H0 (Itz K a b) (zipW xs zs) ok := by
  intro i g H hg f hk
  obtain ⟨⟨ys, q, r⟩, us, q', r'⟩ := rd g H hg f hk
  refine ⟨fun u e => ?_, fun hl => ⟨ys, us, q, q', by rw [r.length, r'.length]; simp [zipW] at hl; omega⟩⟩
  unfold zipW at e
  rw [List.getElem?_map, Option.map_eq_some_iff] at e
  obtain ⟨⟨x1, x2⟩, e0, rfl⟩ := e
  obtain ⟨ex, ez⟩ := List.getElem?_zip_eq_some.mp e0
  obtain ⟨v, e1, rv⟩ := r.get ex
  obtain ⟨v', e1', rv'⟩ := r'.get ez
  refine ⟨⟨ys, us, v, v', q, q', e1, e1'⟩, fun z H' y => ?_⟩
  obtain ⟨T, x', y', rfl, hT, rfl, y, y2⟩ := y
  have e2 := y ys q
  rw [e1] at e2
  cases e2
  have e3 := y2 us q'
  rw [e1'] at e3
  cases e3
  exact ⟨rv_tup upd_same (.cons (rv.keep (TK.new hT)) (.cons (rv'.keep (TK.new hT)) .nil)), hg.new' hT, FK.new' hT⟩
theorem pi_sq {tg l : Expr} {tl : TE} (hl : PE X l tl) : PI X tg l (fun σ H R => tl σ H fun x H1 => (∃ a, x = .ref a ∧ (∃ xs, SqL X.K H1 a xs) ∧ R (Itl X.K a) H1) ∨ ∃ a, x = .ref a ∧ (∃ xs, SqT X.K H1 a xs) ∧ R (Itt X.K a) H1) := by
  refine ⟨fun pins s σ H R I h => thn (hl.run pins s σ H _ I h) fun v s1 hv => ?_⟩
  obtain ⟨x, H1, J, r1, q1⟩ := hv
  have fp : ∀ b ∈ [s1.heap.objs.size], FpOk X pins H1 b := fun b hb => by
    rw [List.mem_singleton.mp hb]
    exact J.fpOk (Nat.le_refl _) (J.hok.fresh (Nat.le_refl _))
  rcases q1 with ⟨a, rfl, ⟨xs, hq⟩, q⟩ | ⟨a, rfl, ⟨xs, hq⟩, q⟩
  · cases r1
    obtain ⟨its, rv, p, hz⟩ := J.list hq
    exact wpAny_pyIter_list p.isList ⟨_, _, _, _, H1, rfl, J.kept (t' := s1.toks) fun b o e => Heap.get?_push_of_some _ e, turn_list a _, ⟨_, Heap.get?_push_size _ rfl, rfl, rfl⟩, fp, q⟩
  · cases r1
    obtain ⟨its, rv, p, hz⟩ := J.tuple hq
    exact wpAny_pyIter_tuple (show s1.heap.IsTuple a its.toArray from p) ⟨_, _, _, _, H1, rfl, J.kept (t' := s1.toks) fun b o e => Heap.get?_push_of_some _ e, turn_tuple a _, ⟨_, Heap.get?_push_size _ rfl, rfl, rfl⟩, fp, q⟩
theorem piI {tg e : Expr} {t t' : TI} (h : PI X tg e t) (i : ∀ σ H Q, t' σ H Q → t σ H Q) : PI X tg e t' := ⟨fun pins s σ H Q I q => h.run pins s σ H Q I (i σ H Q q)⟩
end
end L3
set_option maxRecDepth 100000
set_option maxHeartbeats 4000000
namespace L3
open PySem PySem.Spec L2
def gT (K : PySem.W.Frag) : T3 → TG
  | .name i => gName i
  | .tup is => fun v σ H Q => (∃ a xs, v = .ref a ∧ SqT K H a xs ∧ xs.length = is.length ∧ Q (setAll is xs σ) H) ∨ ∃ a xs, v = .ref a ∧ SqL K H a xs ∧ xs.length = is.length ∧ Q (setAll is xs σ) H
def gNs (is : List Nat) : TGs := fun vs σ H Q => vs.length = is.length ∧ Q (setAll is vs σ) H
section
variable {X : Cx} {E : Env3} {w : WX} {CF : CF3} {gl : Gs} {ck : Ck}
theorem pgsI {e : List Expr} {t t' : TGs} (h : PGs X e t) (i : ∀ v σ H Q, t' v σ H Q → t v σ H Q) : PGs X e t' := ⟨fun pins s σ H v u Q I r q => h.run pins s σ H v u Q I r (i _ _ _ _ q)⟩
theorem locs_ok (ok : CkOk ck X E w CF gl) : ∀ {is : List Nat} {es : List Expr}, locs ck is es = true → PGs X es (gNs is) ∧ (assignEach es X.env).length = is.length ∧ (assignEach es X.env).findIdx? (·.1) = none
  | [], [], _ => ⟨pgsI pgs_nil fun v σ H Q h => ⟨List.length_eq_zero_iff.mp h.1, by cases v with | nil => exact h.2 | cons a b => exact absurd h.1 (by simp)⟩, rfl, rfl⟩
  | [], _ :: _, h => ff h
  | _ :: _, [], h => ff h
  | i :: is, e :: es, h => by
    cases e <;> first | exact ff h | skip
    rename_i x p
    obtain ⟨h1, h2⟩ := bool_and h
    obtain ⟨k1, k2, k3⟩ := locs_ok ok h2
    obtain ⟨l1, l2, l3⟩ := ok.loc h1
    refine ⟨pgsI (pgs_cons (pg_name (i := i) ok.nd' l1 l2 l3) k1) fun v σ H Q q => ?_, by show _ + 1 = _ + 1; rw [k2], ?_⟩
    · obtain ⟨q1, q2⟩ := q
      cases v with
      | nil => simp at q1
      | cons a r => exact ⟨a, r, rfl, by simpa using q1, q2⟩
    · show ((false, assign (.Name x p) X.env) :: assignEach es X.env).findIdx? (·.1) = none
      rw [List.findIdx?_cons]
      simp [k3]
theorem s_t (ok : CkOk ck X E w CF gl) {tg : T3} {e : Expr} (h : chkT ck tg e = true) : PG X e (gT E.K tg) := by
  cases tg with
  | name i =>
    cases e <;> first | exact ff h | skip
    obtain ⟨l1, l2, l3⟩ := ok.loc h
    exact pg_name (i := i) ok.nd' l1 l2 l3
  | tup is =>
    cases e <;> first | exact ff h | skip
    obtain ⟨h, hh⟩ := bool_and h
    have hh := bool_not hh
    obtain ⟨k1, k2, k3⟩ := locs_ok ok h
    have a := pg_tup (k := by assumption) (pos := by assumption) (ok.calm hh) k1 k2 k3
    have b := pg_unl (k := by assumption) (pos := by assumption) (ok.calm hh) k1 k2 k3
    refine ⟨fun pins s σ H v u Q I r q => ?_⟩
    rw [ok.hK] at a b
    rcases q with ⟨p, xs, e1, hq, hl, q⟩ | ⟨p, xs, e1, hq, hl, q⟩
    · exact a.run pins s σ H v u Q I r ⟨p, xs, e1, hq, hl, hl, q⟩
    · exact b.run pins s σ H v u Q I r ⟨p, xs, e1, hq, hl, hl, q⟩
theorem SR.setAll {K : PySem.W.Frag} {H : Hp} : ∀ {is : List Nat} {ws : List W} {vs : List V} {s : Sx} {σ : L2.St}, RVs K H ws vs → SR K H s σ → SR K H (L3.setAll is ws s) (L3.setAll is vs σ)
  | [], _, _, _, _, _, h => h
  | _ :: _, [], _, _, _, r, h => by rw [r.nil_inv]; exact h
  | i :: is, x :: xs, _, _, _, r, h => by
    obtain ⟨v, r', rfl, h1, h2⟩ := r.cons_inv
    exact SR.setAll (is := is) h2 (h.set h1 i)
inductive Sets (is : List Nat) (σ : L2.St) : L2.St → Prop
  | refl : Sets is σ σ
  | step {τ : L2.St} {i : Nat} {v : V} (h : Sets is σ τ) (m : i ∈ is) : Sets is σ (τ.set i (some v))
theorem sets_all {js : List Nat} {σ : L2.St} : ∀ {is : List Nat} {vs : List V} {τ : L2.St}, (∀ i ∈ is, i ∈ js) → Sets js σ τ → Sets js σ (setAll is vs τ)
  | [], _, _, _, h => h
  | _ :: _, [], _, _, h => h
  | i :: is, v :: vs, τ, m, h => sets_all (is := is) (vs := vs) (fun j hj => m j (List.mem_cons_of_mem _ hj)) (h.step (m i List.mem_cons_self))
theorem l_asg {tg : T3} {a : W} {v : V} {s : Sx} {σ : L2.St} {g : G} {H : Hp} {k : Sx → Prop} {Q : L2.St → Hp → Prop} (r : RV E.K H a v) (hs : SR E.K H s σ) (hg : GR E g H) (h : asg tg a s g k)
    (hQ : ∀ s2 σ2, SR E.K H s2 σ2 → Sets (tIs tg) σ σ2 → k s2 → Q σ2 H) : gT E.K tg v σ H Q := by
  cases tg with
  | name i => exact hQ _ _ (hs.set r i) (.step .refl (by simp [tIs])) h
  | tup is =>
    cases a with
    | tup xs =>
      obtain ⟨p, ys, rfl, ht, hr⟩ := rv_tup_inv r
      exact .inl ⟨p, ys, rfl, SqT.of ht, by rw [hr.length]; exact h.1, hQ _ _ (hs.setAll hr) (sets_all (fun _ z => z) .refl) h.2⟩
    | scr xs =>
      obtain ⟨p, ys, rfl, ht, hr⟩ := rv_scr_inv r
      exact .inr ⟨p, ys, rfl, ht.sq, by rw [hr.length]; exact h.1, hQ _ _ (hs.setAll hr) (sets_all (fun _ z => z) .refl) h.2⟩
    | lv xs =>
      obtain ⟨p, ys, rfl, ht, hr⟩ := rv_lv_inv r
      exact .inr ⟨p, ys, rfl, ht.sq, by rw [hr.length]; exact h.1, hQ _ _ (hs.setAll hr) (sets_all (fun _ z => z) .refl) h.2⟩
    | ref p =>
      rw [RV] at r; subst r
      obtain ⟨xs, e, h1, h2⟩ := lstAt_inv h
      obtain ⟨ys, f1, hr⟩ := hg _ _ e
      exact .inr ⟨p, ys, rfl, SqL.of f1, by rw [hr.length]; exact h1, hQ _ _ (hs.setAll hr) (sets_all (fun _ z => z) .refl) h2⟩
    | _ => exact h.elim
theorem wipe_set1 {σ : L2.St} {i : Nat} {x y : Option V} : ∀ vs : List Nat, (wipe (σ.set i x) vs).set i y = (wipe σ vs).set i y
  | [] => by simp [wipe]
  | v :: vs => by
    show ((wipe (σ.set i x) vs).set v none).set i y = ((wipe σ vs).set v none).set i y
    by_cases e : v = i
    · subst e; simp [List.set_set, wipe_set1 vs]
    · rw [List.set_comm _ _ e, List.set_comm _ _ e, wipe_set1 vs]
theorem wipe_set {σ : L2.St} {i : Nat} {x : Option V} : ∀ {vs : List Nat}, i ∈ vs → wipe (σ.set i x) vs = wipe σ vs
  | [], h => by cases h
  | v :: vs, h => by
    show (wipe (σ.set i x) vs).set v none = (wipe σ vs).set v none
    by_cases e : i ∈ vs
    · rw [wipe_set e]
    · have e' : i = v := (List.mem_cons.mp h).elim id fun z => absurd z e
      subst e'
      exact wipe_set1 vs
theorem wipe_none {σ : L2.St} {i : Nat} : ∀ {vs : List Nat}, i ∈ vs → (wipe σ vs).set i none = wipe σ vs
  | [], h => by cases h
  | v :: vs, h => by
    show ((wipe σ vs).set v none).set i none = (wipe σ vs).set v none
    by_cases e : v = i
    · subst e; simp [List.set_set]
    · rw [List.set_comm _ _ e]
      have e' : i ∈ vs := (List.mem_cons.mp h).elim (fun z => absurd z.symm e) id
      rw [wipe_none e']
theorem wipe_idem {σ : L2.St} {vs : List Nat} : ∀ {us : List Nat}, (∀ u ∈ us, u ∈ vs) → wipe (wipe σ vs) us = wipe σ vs
  | [], _ => rfl
  | u :: us, h => by
    show (wipe (wipe σ vs) us).set u none = _
    rw [wipe_idem fun v hv => h v (List.mem_cons_of_mem _ hv), wipe_none (h u List.mem_cons_self)]
theorem wipe_sets {is vs : List Nat} {σ τ : L2.St} (m : ∀ i ∈ is, i ∈ vs) (h : Sets is σ τ) : wipe τ vs = wipe σ vs := by
  induction h with
  | refl => rfl
  | step h k ih => rw [wipe_set (m _ k), ih]
theorem SR.wipe {K : PySem.W.Frag} {H : Hp} {s : Sx} {σ : L2.St} (h : SR K H s σ) : ∀ vs : List Nat, SR K H (wipe3 s vs) (L2.wipe σ vs)
  | [] => h
  | v :: vs => (SR.wipe h vs).unset v
theorem GR.skip {g : G} {H : Hp} {p : Addr} {u : HO} (hg : GR E g H) (n : g p = none) (t : TK H (upd H p u)) : GR E g (upd H p u) := fun a o e =>
  (hg a o e).keep t (upd_ne fun z => by subst z; rw [n] at e; cases e)
theorem l_lc {tg : T3} {own : List Nat} {ti : TI3} {tt : TT3} {te : TE3} (m : ∀ i ∈ tIs tg, i ∈ own) {σ : L2.St} {H : Hp} {Q : VK}
    (h : liftE E w (fun x s g q => ti x s g fun items ok g1 => lcI tg ok (fun s2 g2 k => tt (fun _ _ _ => False) s2 g2 k) (fun s2 g2 k => te (fun _ _ _ => False) s2 g2 k) (wipe3 s own) q items [] g1) σ H Q) :
    tLc (liftI E w ti) (gT E.K tg) (liftT E w0 tt) (liftE E w0 te) own σ H Q := by
  obtain ⟨s, g, q, x, hs, hg, h, kq, kx⟩ := h
  refine ⟨s, g, _, x, hs, hg, h, fun items ok g1 J H1 hg1 f1 hit hl D hD => ?_, kx⟩
  have t1 := f1.tk hg
  have gD := hg1.free hD
  refine ⟨fun i n H' => n = items.length - i ∧ i ≤ items.length ∧ ∃ acc vs g2, GR E g2 H' ∧ FK g1 H1 g2 H' ∧ H' D = some (.lst vs) ∧ RVs E.K H' acc vs ∧ g2 D = none ∧
    lcI tg ok (fun s2 g2 k => tt (fun _ _ _ => False) s2 g2 k) (fun s2 g2 k => te (fun _ _ _ => False) s2 g2 k) (wipe3 s own) q (items.drop i) acc g2,
    ⟨items.length, by simp, Nat.zero_le _, [], [], g1, hg1.new' hD, FK.new' hD, upd_same, .nil, gD, hl⟩, ?_⟩
  rintro i n H2 ⟨rfl, hi, acc, vs, g2, hg2, f2, e2, r2, n2, hl⟩
  have t2 := f2.tk hg1
  cases hd : items.drop i with
  | nil =>
    rw [hd] at hl
    have hlen : items.length ≤ i := List.drop_eq_nil_iff.mp hd
    refine .inl ⟨(hit i g2 H2 hg2 f2 hl.1).2 hlen, ?_⟩
    refine kq (.ref D) (gup g2 D (.lst acc)) (.ref D) H2 ?_ rv_ref ?_ (hl.2 D n2)
    · intro a o e
      by_cases z : a = D
      · subst z; rw [gup_same] at e; cases e; exact ⟨vs, e2, r2⟩
      · rw [gup_ne z] at e; exact hg2 a o e
    · refine f1.trans ⟨fun a u e k => ?_, f2.frz⟩
      obtain ⟨q1, q2⟩ := f2.own a u e k
      have z : a ≠ D := ne_of_none e hD
      exact ⟨q1, by rw [gup_ne z]; exact q2⟩
  | cons y ys =>
    rw [hd] at hl
    have hlt : i < items.length := by
      rcases Nat.lt_or_ge i items.length with z | z
      · exact z
      · rw [List.drop_eq_nil_of_le z] at hd; cases hd
    have ey : items[i]? = some y := by
      have := congrArg List.head? hd
      simpa [List.head?_drop] using this
    have eys : items.drop (i + 1) = ys := by
      have := congrArg List.tail hd
      simpa [List.tail_drop] using this
    obtain ⟨hok, hl⟩ := hl
    obtain ⟨hgo, hyl⟩ := (hit i g2 H2 hg2 f2 hok).1 y ey
    refine .inr ⟨hgo, fun H' => ∃ m', m' < items.length - i ∧ (m' = items.length - (i + 1) ∧ i + 1 ≤ items.length ∧ ∃ acc vs g2, GR E g2 H' ∧ FK g1 H1 g2 H' ∧ H' D = some (.lst vs) ∧ RVs E.K H' acc vs ∧ g2 D = none ∧
      lcI tg ok (fun s2 g2 k => tt (fun _ _ _ => False) s2 g2 k) (fun s2 g2 k => te (fun _ _ _ => False) s2 g2 k) (wipe3 s own) q (items.drop (i + 1)) acc g2), fun H' z => z, fun v H3 hy => ?_⟩
    obtain ⟨rv, hg3, f3⟩ := hyl v H3 hy
    have t3 := f3.tk hg2
    refine l_asg rv (((hs.keep t1).keep t2 |>.keep t3).wipe own) hg3 hl fun s4 σ4 hs4 st hk => ⟨?_, ?_⟩
    · rw [wipe_sets m st]
      exact wipe_idem fun _ z => z
    refine ⟨s4, g2, _, fun _ _ _ => False, hs4, hg3, hk, fun b g5 H5 hg5 f5 hb => ?_, fun _ _ _ _ _ _ _ _ _ z => z.elim⟩
    have t5 := f5.tk hg3
    have fD : H5 D = some (.lst vs) ∧ g5 D = none := (f3.trans f5).own D _ e2 n2
    have r5 : RVs E.K H5 acc vs := (r2.keep t3).keep t5
    show if b = true then _ else _
    replace hb : if b = true then _ else _ := hb
    by_cases hbt : b = true
    · rw [if_pos hbt] at hb ⊢
      refine ⟨s4, g5, _, fun _ _ _ => False, hs4.keep t5, hg5, hb, fun y' g6 v6 H6 hg6 rv6 f6 hz => ?_, fun _ _ _ _ _ _ _ _ _ z => z.elim⟩
      obtain ⟨hsz, hz⟩ := hz
      have t6 := f6.tk hg5
      have fD6 := f6.own D _ fD.1 fD.2
      have tD : TK H6 (upd H6 D (.lst (vs ++ [v6]))) := TK.wr fD6.1 trivial
      refine ⟨vs, fD6.1, by rw [r5.length]; exact hsz, _, ?_, rfl, hlt, acc ++ [y'], vs ++ [v6], g6, hg6.skip fD6.2 tD, ?_, upd_same, ((r5.keep t6).keep tD).append (.cons (rv6.keep tD) .nil), fD6.2, by rw [eys]; exact hz⟩
      · omega
      · have f26 := ((f2.trans f3).trans f5).trans f6
        refine ⟨fun a u e k => ?_, fun a od u e => ?_⟩
        · obtain ⟨q1, q2⟩ := f26.own a u e k
          exact ⟨by rw [upd_ne (ne_of_none e hD)]; exact q1, q2⟩
        · rw [upd_ne (ne_of_none e hD)]; exact f26.frz a od u e
    · rw [if_neg hbt] at hb ⊢
      exact ⟨_, by omega, rfl, hlt, acc, vs, g5, hg5, (f2.trans f3).trans f5, fD.1, r5, fD.2, by rw [eys]; exact hb⟩
end
end L3
set_option maxRecDepth 100000
set_option maxHeartbeats 4000000
namespace L3
open PySem PySem.Spec L2
def tLk (te : TE) : TE := fun σ H Q => te σ H (fun v H1 => Q v H1 ∨ ∃ d u, v = .ref d ∧ H1 d = some u ∧ Mut (some u) ∧ ∀ od, Q v (upd H1 d (.frz od u)))
def unH (H0 : Hp) (N : Hp → Prop) (H' : Hp) : Prop := N H' ∨ ∃ d od u, H' d = some (.frz od u) ∧ Mut (some u) ∧ (∀ o' u', H0 d ≠ some (.frz o' u')) ∧ N (upd H' d u)
def unE (H0 : Hp) (D : Ends) : Ends := ⟨fun σ H => unH H0 (D.nx σ) H, fun v H => unH H0 (D.rt v) H, fun σ H => unH H0 (D.bk σ) H, fun σ H => unH H0 (D.ct σ) H⟩
def tUnl (t : TS) : TS := fun D σ H => t (unE H D) σ H
def tUnlE (t : TE) : TE := fun σ H Q => t σ H fun v H' => unH H (Q v) H'
section
variable {X : Cx} {pins : List (Addr × Obj)} {σ σ' : L2.St} {H H' : Hp} {s s' : Shared}
theorem pe_lk {e : Expr} {te : TE} (h : PE X e te) : PE X e (tLk te) := by
  refine ⟨fun pins s σ H Q I q => ?_⟩
  refine thn (h.run pins s σ H _ I q) fun v s1 ⟨x, H1, I1, r, q1⟩ => ?_
  rcases q1 with q1 | ⟨d, u, e, hd, mu, q1⟩
  · exact ⟨x, H1, I1, r, q1⟩
  · obtain ⟨od, I2⟩ := I1.lock hd mu
    exact ⟨x, _, I2, r, q1 od⟩
theorem un_ix {N : Hp → Prop} (I0 : L2.Inv X pins σ H s) (I : L2.Inv X pins σ' H' s') (h : unH H N H') : ∃ H2, L2.Inv X pins σ' H2 s' ∧ N H2 := by
  rcases h with h | ⟨d, od, u, hd, mu, hn, h⟩
  · exact ⟨H', I, h⟩
  · exact ⟨_, I.unlock hd (fun o' u' e => hn o' u' (I0.base.frzs d o' u' e)), h⟩
theorem ps_unl {st : Stmt} {t : TS} (h : PS X st t) : PS X st (tUnl t) := by
  refine ⟨fun pins s σ H D I hw => ?_⟩
  refine thn (h.run pins s σ H _ I hw) fun f s1 q => ?_
  cases f with
  | next => obtain ⟨σ', H', I2, q⟩ := q; obtain ⟨H2, I3, q⟩ := un_ix I I2 q; exact ⟨σ', _, I3, q⟩
  | brk => obtain ⟨σ', H', I2, q⟩ := q; obtain ⟨H2, I3, q⟩ := un_ix I I2 q; exact ⟨σ', _, I3, q⟩
  | cont => obtain ⟨σ', H', I2, q⟩ := q; obtain ⟨H2, I3, q⟩ := un_ix I I2 q; exact ⟨σ', _, I3, q⟩
  | ret v => obtain ⟨x, σ', H', I2, r, q⟩ := q; obtain ⟨H2, I3, q⟩ := un_ix I I2 q; exact ⟨x, σ', _, I3, r, q⟩
theorem pe_unl {e : Expr} {t : TE} (h : PE X e t) : PE X e (tUnlE t) := by
  refine ⟨fun pins s σ H Q I hw => ?_⟩
  refine thn (h.run pins s σ H _ I hw) fun v s1 ⟨x, H1, I1, r, q⟩ => ?_
  obtain ⟨H2, I3, q⟩ := un_ix I I1 q
  exact ⟨x, _, I3, r, q⟩
end
section
variable {E : Env3} {g g' : G} {H H' : Hp} {w : WX}
theorem gup_self {a : Addr} {o : GO} (h : g a = some o) : gup g a o = g := by
  funext b; unfold gup; split
  · rename_i e; subst e; exact h.symm
  · rfl
theorem lkd_at (hg : GR E g H) {a : Addr} (h : lkd g a) : ∃ od u, H a = some (.frz od u) ∧ Mut (some u) ∧ (∀ xs, u ≠ .lst xs) ∧ GR E (unl g a) (upd H a u) ∧ TK H (upd H a u) := by
  rcases h with ⟨kvs, e⟩ | ⟨kvs, e⟩
  · obtain ⟨l, ⟨od, hd⟩, e1, e2⟩ := hg _ _ e
    refine ⟨od, _, hd, trivial, (fun _ z => nomatch z), ?_, hg.tk e⟩
    have : unl g a = gup g a (.dic false kvs) := by unfold unl; rw [e]
    rw [this]
    exact hg.wr e ⟨l, upd_same, e1, e2.keep (hg.tk e)⟩
  · obtain ⟨l, ⟨od, hd⟩, e1, e2⟩ := hg _ _ e
    refine ⟨od, _, hd, trivial, (fun _ z => nomatch z), ?_, hg.tk e⟩
    have : unl g a = gup g a (.dit false kvs) := by unfold unl; rw [e]
    rw [this]
    exact hg.wr e ⟨l, upd_same, e1, e2.keep (hg.tk e)⟩
theorem lkd_some {a : Addr} (h : lkd g a) : ∃ o, g a = some o := by rcases h with ⟨k, e⟩ | ⟨k, e⟩ <;> exact ⟨_, e⟩
theorem unl_ne {a b : Addr} (h : b ≠ a) : unl g a b = g b := by
  unfold unl
  rcases e : g a with _ | o
  · rfl
  · cases o with
    | lst xs => rfl
    | dic lk kvs => cases lk <;> first | rfl | exact gup_ne h
    | dit lk kvs => cases lk <;> first | rfl | exact gup_ne h
    | ins c fs => rfl
    | xd fs => rfl
theorem un_frz (hg : GR E g H) (f : FK g H g' H') {a : Addr} (h0 : ¬ lkd g a) (h1 : lkd g' a) : ∀ o' u', H a ≠ some (.frz o' u') := by
  intro o' u' e
  cases eg : g a with
  | none =>
    obtain ⟨o, k⟩ := lkd_some h1
    rw [(f.own a _ e eg).2] at k
    cases k
  | some o =>
    have r := hg a o eg
    cases o with
    | lst xs => obtain ⟨ys, q, _⟩ := r; rw [e] at q; cases q
    | dic lk kvs => cases lk with
      | false => obtain ⟨ys, q, _⟩ := r; rw [show H a = _ from q] at e; cases e
      | true => exact h0 (.inl ⟨kvs, eg⟩)
    | dit lk kvs => cases lk with
      | false => obtain ⟨ys, q, _⟩ := r; rw [show H a = _ from q] at e; cases e
      | true => exact h0 (.inr ⟨kvs, eg⟩)
    | ins c fs => obtain ⟨_, _, dx, l, q, _⟩ := r; rw [e] at q; cases q
    | xd fs => obtain ⟨l, q, _⟩ := r; rw [e] at q; cases q
theorem un_of (hg : GR E g H) (hg' : GR E g' H') (f : FK g H g' H') {P : G → Prop} {N : Hp → Prop} (h : un g P g') (k : ∀ g2 H2, GR E g2 H2 → FK g H g2 H2 → TK H' H2 → P g2 → N H2) : unH H N H' := by
  rcases h with h | ⟨a, h0, h1, h⟩
  · exact .inl (k g' H' hg' f TK.refl h)
  · obtain ⟨od, u, hd, mu, nl, hg2, tk⟩ := lkd_at hg' h1
    have hn := un_frz hg f h0 h1
    refine .inr ⟨a, od, u, hd, mu, hn, k _ _ hg2 ⟨fun b v e n => ?_, fun b o v e => ?_⟩ tk h⟩
    · obtain ⟨q1, q2⟩ := f.own b v e n
      have z : b ≠ a := fun z => by subst z; obtain ⟨o, k⟩ := lkd_some h1; rw [q2] at k; cases k
      exact ⟨by rw [upd_ne z]; exact q1, by rw [unl_ne z]; exact q2⟩
    · have z : b ≠ a := fun z => by subst z; exact hn _ _ e
      rw [upd_ne z]; exact f.frz b o v e
theorem un_kn (hg : GR E g H) {P : Sx → G → Prop} {N : L2.St → Hp → Prop} (k : KN E g H P N) : KN E g H (fun s g' => un g (P s) g') (fun σ H' => unH H (N σ) H') :=
  fun s' g' σ' H' r1 r2 f n => un_of hg r2 f n fun g2 H2 q1 q2 t p => k s' g2 σ' H2 (r1.keep t) q1 q2 p
theorem un_kq (hg : GR E g H) {P : VK3} {N : VK} (k : KQ E g H P N) : KQ E g H (fun v g' => un g (P v) g') (fun v H' => unH H (N v) H') :=
  fun a g' v H' r1 r2 f n => un_of hg r1 f n fun g2 H2 q1 q2 t p => k a g2 v H2 q1 (r2.keep t) q2 p
theorem un_kd (hg : GR E g H) {d : Ends3} {D : Ends} (k : KD E g H d D w) : KD E g H (unD g d) (unE H D) w :=
  ⟨un_kn hg k.nx, un_kq hg k.rt, un_kn hg k.bk, un_kn hg k.ct, k.ex⟩
theorem lock_dic (hg : GR E g H) {a : Addr} {kvs : List (Key × W)} {l : List (Key × V)} (eg : g a = some (.dic false kvs)) (hd : H a = some (.dK l)) (e1 : kvs.map (·.1) = l.map (·.1)) (e2 : RVs E.K H (kvs.map (·.2)) (l.map (·.2))) (od : Obj) :
    GR E (gup g a (.dic true kvs)) (upd H a (.frz od (.dK l))) ∧ FK g H (gup g a (.dic true kvs)) (upd H a (.frz od (.dK l))) :=
  ⟨hg.wr eg ⟨l, ⟨od, upd_same⟩, e1, e2.keep (hg.tk eg)⟩, FK.wr eg hd (fun _ _ z => nomatch z)⟩
theorem lock_dit (hg : GR E g H) {a : Addr} {kvs : List (List Key × W)} {l : List (List Key × V)} (eg : g a = some (.dit false kvs)) (hd : H a = some (.dT l)) (e1 : kvs.map (·.1) = l.map (·.1)) (e2 : RVs E.K H (kvs.map (·.2)) (l.map (·.2))) (od : Obj) :
    GR E (gup g a (.dit true kvs)) (upd H a (.frz od (.dT l))) ∧ FK g H (gup g a (.dit true kvs)) (upd H a (.frz od (.dT l))) :=
  ⟨hg.wr eg ⟨l, ⟨od, upd_same⟩, e1, e2.keep (hg.tk eg)⟩, FK.wr eg hd (fun _ _ z => nomatch z)⟩
theorem key_at {κ : Type} {kvs : List (κ × W)} {l : List (κ × V)} (e : kvs.map (·.1) = l.map (·.1)) {i : Nat} {k : κ} {v : V} (h : l[i]? = some (k, v)) : ∃ w, kvs[i]? = some (k, w) := by
  have e1 : (l.map (·.1))[i]? = some k := by rw [List.getElem?_map, h]; rfl
  rw [← e, List.getElem?_map] at e1
  cases e2 : kvs[i]? with
  | none => rw [e2] at e1; cases e1
  | some p => rw [e2] at e1; cases e1; exact ⟨p.2, rfl⟩
theorem rv_kW {K : PySem.W.Frag} {H : Hp} (k : Key) : RV K H (kW k) (kV k) := by cases k <;> simp [kW, kV, RV]
theorem rvs_kW {K : PySem.W.Frag} {H : Hp} : ∀ ks : List Key, RVs K H (ks.map kW) (ks.map kV)
  | [] => .nil
  | k :: ks => .cons (rv_kW k) (rvs_kW ks)
theorem it_keys {g0 : G} {H0 : Hp} {a : Addr} {od : Obj} {kvs : List (Key × W)} {l : List (Key × V)} (hd : H0 a = some (.frz od (.dK l))) (e1 : kvs.map (·.1) = l.map (·.1)) :
    ItOk E g0 H0 (Itk a od l) (kvs.map fun p => kW p.1) (fun g' => g' a = some (.dic true kvs)) := by
  intro i g H hg f ok
  have hd' := f.frz _ _ _ hd
  have hl : l.length = kvs.length := by simpa using (congrArg List.length e1).symm
  refine ⟨fun u e => ?_, fun h => ⟨hd', by simpa [hl] using h⟩⟩
  have hi : i < kvs.length := by
    have := (List.getElem?_eq_some_iff.mp e).1
    simpa using this
  refine ⟨⟨hd', by omega⟩, fun x H' y => ?_⟩
  obtain ⟨eH, k, v, ek, rfl⟩ := y
  subst eH
  obtain ⟨w, ew⟩ := key_at e1 ek
  rw [List.getElem?_map, ew] at e
  cases e
  exact ⟨rv_kW k, hg, FK.refl⟩
theorem it_keysT {g0 : G} {H0 : Hp} {a : Addr} {od : Obj} {kvs : List (List Key × W)} {l : List (List Key × V)} (hd : H0 a = some (.frz od (.dT l))) (e1 : kvs.map (·.1) = l.map (·.1)) :
    ItOk E g0 H0 (Itkt a od l) (kvs.map fun p => ktW p.1) (fun g' => g' a = some (.dit true kvs)) := by
  intro i g H hg f ok
  have hd' := f.frz _ _ _ hd
  have hl : l.length = kvs.length := by simpa using (congrArg List.length e1).symm
  refine ⟨fun u e => ?_, fun h => ⟨hd', by simpa [hl] using h⟩⟩
  have hi : i < kvs.length := by
    have := (List.getElem?_eq_some_iff.mp e).1
    simpa using this
  refine ⟨⟨hd', by omega⟩, fun x H' y => ?_⟩
  obtain ⟨eH, k, v, q, ek, rfl, hq⟩ := y
  subst eH
  obtain ⟨w, ew⟩ := key_at e1 ek
  rw [List.getElem?_map, ew] at e
  cases e
  exact ⟨rv_tup hq (rvs_kW k), hg, FK.refl⟩
theorem it_items {g0 : G} {H0 : Hp} {a : Addr} {od : Obj} {kvs : List (Key × W)} {l : List (Key × V)} (h0 : GR E g0 H0) (hd : H0 a = some (.frz od (.dK l))) (e1 : kvs.map (·.1) = l.map (·.1)) (e2 : RVs E.K H0 (kvs.map (·.2)) (l.map (·.2))) :
    ItOk E g0 H0 (Iti a od l) (kvs.map fun p => .tup [kW p.1, p.2]) (fun g' => g' a = some (.dic true kvs)) := by
  intro i g H hg f ok
  have hd' := f.frz _ _ _ hd
  have t := f.tk h0
  have hl : l.length = kvs.length := by simpa using (congrArg List.length e1).symm
  refine ⟨fun u e => ?_, fun h => ⟨hd', by simpa [hl] using h⟩⟩
  have hi : i < kvs.length := by
    have := (List.getElem?_eq_some_iff.mp e).1
    simpa using this
  refine ⟨⟨hd', by omega⟩, fun x H' y => ?_⟩
  obtain ⟨T, k, v, ek, rfl, hT, eH⟩ := y
  subst eH
  obtain ⟨w, ew⟩ := key_at e1 ek
  rw [List.getElem?_map, ew] at e
  cases e
  have ew2 : (kvs.map (·.2))[i]? = some w := by rw [List.getElem?_map, ew]; rfl
  obtain ⟨v', ev, rv⟩ := e2.get ew2
  rw [List.getElem?_map, ek] at ev
  cases ev
  have tn : TK H (upd H T (.tup [kV k, v])) := TK.new hT
  exact ⟨rv_tup upd_same (.cons (rv_kW k) (.cons ((rv.keep t).keep tn) .nil)), hg.new' hT, FK.new' hT⟩
theorem l_keys {te : TE3} {σ : L2.St} {R : It → Hp → Prop} (h : liftI E w (fun x s g r => te x s g fun w g1 => keysS w g1 r) σ H R) : iKeys (tLk (liftE E w te)) σ H R := by
  obtain ⟨s, g, r, x, hs, hg, h, kr, kx⟩ := h
  refine ⟨s, g, _, x, hs, hg, h, fun a g1 v H1 hg1 ra f1 h1 => ?_, kx⟩
  change keysS a g1 r at h1
  unfold keysS at h1
  split at h1
  · rename_i p
    simp only [RV] at ra; subst ra
    split at h1
    · rename_i lk kvs eg
      obtain ⟨l, hd, e1, e2⟩ := hg1 _ _ eg
      cases lk with
      | true =>
        rw [gup_self eg] at h1
        obtain ⟨od, hd⟩ := hd
        exact .inl ⟨p, od, rfl, .inl ⟨l, hd, kr _ _ g1 _ H1 hg1 f1 (it_keys hd e1) h1⟩⟩
      | false =>
        refine .inr ⟨p, _, rfl, hd, trivial, fun od => ?_⟩
        obtain ⟨q1, q2⟩ := lock_dic hg1 eg hd e1 e2 od
        exact ⟨p, od, rfl, .inl ⟨l, upd_same, kr _ _ _ _ _ q1 (f1.trans q2) (it_keys upd_same e1) h1⟩⟩
    · rename_i lk kvs eg
      obtain ⟨l, hd, e1, e2⟩ := hg1 _ _ eg
      cases lk with
      | true =>
        rw [gup_self eg] at h1
        obtain ⟨od, hd⟩ := hd
        exact .inl ⟨p, od, rfl, .inr ⟨l, hd, kr _ _ g1 _ H1 hg1 f1 (it_keysT hd e1) h1⟩⟩
      | false =>
        refine .inr ⟨p, _, rfl, hd, trivial, fun od => ?_⟩
        obtain ⟨q1, q2⟩ := lock_dit hg1 eg hd e1 e2 od
        exact ⟨p, od, rfl, .inr ⟨l, upd_same, kr _ _ _ _ _ q1 (f1.trans q2) (it_keysT upd_same e1) h1⟩⟩
    · exact h1.elim
  · exact h1.elim
theorem l_items {te : TE3} {σ : L2.St} {R : It → Hp → Prop} (h : liftI E w (fun x s g r => te x s g fun w g1 => itemsS w g1 r) σ H R) : iItems (tLk (liftE E w te)) σ H R := by
  obtain ⟨s, g, r, x, hs, hg, h, kr, kx⟩ := h
  refine ⟨s, g, _, x, hs, hg, h, fun a g1 v H1 hg1 ra f1 h1 => ?_, kx⟩
  change itemsS a g1 r at h1
  unfold itemsS at h1
  split at h1
  · rename_i p
    simp only [RV] at ra; subst ra
    split at h1
    · rename_i lk kvs eg
      obtain ⟨l, hd, e1, e2⟩ := hg1 _ _ eg
      cases lk with
      | true =>
        rw [gup_self eg] at h1
        obtain ⟨od, hd⟩ := hd
        exact .inl ⟨p, od, l, rfl, hd, kr _ _ g1 _ H1 hg1 f1 (it_items hg1 hd e1 e2) h1⟩
      | false =>
        refine .inr ⟨p, _, rfl, hd, trivial, fun od => ?_⟩
        obtain ⟨q1, q2⟩ := lock_dic hg1 eg hd e1 e2 od
        exact ⟨p, od, l, rfl, upd_same, kr _ _ _ _ _ q1 (f1.trans q2) (it_items q1 upd_same e1 (e2.keep (q2.tk hg1))) h1⟩
    · exact h1.elim
  · exact h1.elim
end
section
variable {X : Cx} {E : Env3} {w : WX}
theorem ty_dic {a : W} {v : V} {g : G} {H : Hp} (h : isDic a g) (r : RV E.K H a v) (hg : GR E g H) : ∃ p, a = .ref p ∧ v = .ref p ∧ IsD H p := by
  cases a with
  | ref p =>
    rw [RV] at r; subst r
    unfold isDic at h
    simp only at h
    split at h
    · rename_i lk kvs e; obtain ⟨l, hd, _⟩ := hg _ _ e; exact ⟨p, rfl, rfl, .inl ⟨l, hd.rd⟩⟩
    · rename_i lk kvs e; obtain ⟨l, hd, _⟩ := hg _ _ e; exact ⟨p, rfl, rfl, .inr ⟨l, hd.rd⟩⟩
    · exact h.elim
  | _ => exact h.elim
theorem dget_of {g g0 : G} {H H0 : Hp} {p : Addr} {y z : W} {u v : V} {q : VK3} {Q : VK} (hg : GR E g H) (ry : RV E.K H y u) (rz : RV E.K H z v) (h : dgetS (.ref p) y z g q) (kq : KQ E g0 H0 q Q) (f : FK g0 H0 g H) : ∃ o, DGet H p u o ∧ Q (o.getD v) H := by
  have h' : dicAt g p y fun o => q (o.getD z) g := h
  obtain ⟨o, o', h, d, r⟩ := dicAt_get hg ry h'
  refine ⟨o', d, ?_⟩
  rcases r with ⟨rfl, rfl⟩ | ⟨w', u', rfl, rfl, rr⟩
  · exact kq z g v H hg rz f h
  · exact kq w' g u' H hg rr f h
theorem l_dget1 {to te : TE3} {σ : L2.St} {H : Hp} {Q : VK} (h : liftE E w (fun x s g q => to x s g fun a g1 => isDic a g1 ∧ te x s g1 fun y g2 => dgetS a y .non g2 q) σ H Q) : tDGet1 (liftE E w to) (liftE E w te) σ H Q := by
  obtain ⟨s, g, q, x, hs, hg, h, kq, kx⟩ := h
  refine ⟨s, g, _, x, hs, hg, h, fun a g1 v H1 hg1 ra f1 h1 => ?_, kx⟩
  obtain ⟨p, rfl, rfl, d⟩ := ty_dic h1.1 ra hg1
  refine ⟨p, rfl, d, s, g1, _, x, hs.keep (f1.tk hg), hg1, h1.2, fun y g2 u H2 hg2 ry f2 h2 => ?_, kx.at f1⟩
  exact dget_of hg2 ry rv_non h2 kq (f1.trans f2)
theorem l_dget2 {to te td : TE3} {σ : L2.St} {H : Hp} {Q : VK} (h : liftE E w (fun x s g q => to x s g fun a g1 => isDic a g1 ∧ te x s g1 fun y g2 => td x s g2 fun z g3 => dgetS a y z g3 q) σ H Q) : tDGet2 (liftE E w to) (liftE E w te) (liftE E w td) σ H Q := by
  obtain ⟨s, g, q, x, hs, hg, h, kq, kx⟩ := h
  refine ⟨s, g, _, x, hs, hg, h, fun a g1 v H1 hg1 ra f1 h1 => ?_, kx⟩
  obtain ⟨p, rfl, rfl, d⟩ := ty_dic h1.1 ra hg1
  have t1 := f1.tk hg
  refine ⟨p, rfl, d, s, g1, _, x, hs.keep t1, hg1, h1.2, fun y g2 u H2 hg2 ry f2 h2 => ?_, kx.at f1⟩
  have t2 := f2.tk hg1
  refine ⟨s, g2, _, x, (hs.keep t1).keep t2, hg2, h2, fun z g3 v3 H3 hg3 rz f3 h3 => ?_, kx.at (f1.trans f2)⟩
  exact dget_of hg3 (ry.keep (f3.tk hg2)) rz h3 kq ((f1.trans f2).trans f3)
theorem l_dsetd {to te td : TE3} {σ : L2.St} {H : Hp} {Q : VK} (h : liftE E w (fun x s g q => to x s g fun a g1 => isDic a g1 ∧ te x s g1 fun y g2 => td x s g2 fun z g3 => setdS a y z g3 q) σ H Q) : tDSetd (liftE E w to) (liftE E w te) (liftE E w td) σ H Q := by
  obtain ⟨s, g, q, x, hs, hg, h, kq, kx⟩ := h
  refine ⟨s, g, _, x, hs, hg, h, fun a g1 v H1 hg1 ra f1 h1 => ?_, kx⟩
  obtain ⟨p, rfl, rfl, d⟩ := ty_dic h1.1 ra hg1
  have t1 := f1.tk hg
  refine ⟨p, rfl, d, s, g1, _, x, hs.keep t1, hg1, h1.2, fun y g2 u H2 hg2 ry f2 h2 => ?_, kx.at f1⟩
  have t2 := f2.tk hg1
  refine ⟨s, g2, _, x, (hs.keep t1).keep t2, hg2, h2, fun z g3 v3 H3 hg3 rz f3 h3 => ?_, kx.at (f1.trans f2)⟩
  have f13 := (f1.trans f2).trans f3
  unfold setdS at h3
  simp only at h3
  split at h3
  · rename_i kvs k eg ek
    obtain ⟨l, hd, e1, e2⟩ := hg3 _ _ eg
    have hl : DRel E.K H3 kvs l := ⟨e1, e2⟩
    obtain ⟨hlen, h3⟩ := h3
    refine ⟨l, k, hd, rv_key ek (ry.keep (f3.tk hg2)), by rw [hl.length]; exact hlen, fun v' e => ?_, fun e => ?_⟩
    · rcases hl.get k with ⟨q1, q2⟩ | ⟨w', u', q1, q2, q3⟩
      · rw [e] at q2; cases q2
      · rw [e] at q2; cases q2
        rw [q1] at h3
        exact kq _ g3 _ H3 hg3 q3 f13 h3
    · rcases hl.get k with ⟨q1, q2⟩ | ⟨w', u', q1, q2, q3⟩
      · rw [q1] at h3
        have t : TK H3 (upd H3 p (.dK (putK l k v3))) := hg3.tk eg
        have hp := (hl.keep t).put k (rz.keep t)
        exact kq _ _ _ _ (hg3.wr (o' := .dic false (dPut kvs k z)) eg ⟨_, upd_same, hp.keys, hp.vals⟩) (rz.keep t) (f13.trans (FK.wr eg hd (fun _ _ z => nomatch z))) h3
      · rw [e] at q2; cases q2
  · exact h3.elim
theorem l_dpop1 {to te : TE3} {σ : L2.St} {H : Hp} {Q : VK} (h : liftE E w (fun x s g q => to x s g fun a g1 => isDic a g1 ∧ te x s g1 fun y g2 => dpopS a y g2 q) σ H Q) : tDPop1 (liftE E w to) (liftE E w te) σ H Q := by
  obtain ⟨s, g, q, x, hs, hg, h, kq, kx⟩ := h
  refine ⟨s, g, _, x, hs, hg, h, fun a g1 v H1 hg1 ra f1 h1 => ?_, kx⟩
  obtain ⟨p, rfl, rfl, d⟩ := ty_dic h1.1 ra hg1
  refine ⟨p, rfl, d, s, g1, _, x, hs.keep (f1.tk hg), hg1, h1.2, fun y g2 u H2 hg2 ry f2 h2 => ?_, kx.at f1⟩
  unfold dpopS at h2
  simp only at h2
  split at h2
  · rename_i kvs k eg ek
    obtain ⟨l, hd, e1, e2⟩ := hg2 _ _ eg
    have hl : DRel E.K H2 kvs l := ⟨e1, e2⟩
    obtain ⟨v', ev, h2⟩ := h2
    rcases hl.get k with ⟨q1, q2⟩ | ⟨w', u', q1, q2, q3⟩
    · rw [ev] at q1; cases q1
    · rw [ev] at q1; cases q1
      have t : TK H2 (upd H2 p (.dK (dropK l k))) := hg2.tk eg
      have hp := (hl.keep t).del k
      exact ⟨l, k, u', hd, rv_key ek ry, q2, kq _ _ _ _ (hg2.wr (o' := .dic false (dDel kvs k)) eg ⟨_, upd_same, hp.keys, hp.vals⟩) (q3.keep t) ((f1.trans f2).trans (FK.wr eg hd (fun _ _ z => nomatch z))) h2⟩
  · exact h2.elim
theorem l_lrev (hK : X.K = E.K) {te : TE3} {σ : L2.St} {H : Hp} {Q : VK} (h : liftE E w (fun x s g q => te x s g fun w g1 => revS w g1 q) σ H Q) : tLstRev X.K (liftE E w te) σ H Q := by
  obtain ⟨s, g, q, x, hs, hg, h, kq, kx⟩ := h
  refine ⟨s, g, _, x, hs, hg, h, fun a g1 v H1 hg1 ra f1 h1 => ?_, kx⟩
  change revS a g1 q at h1
  cases a with
  | ref p =>
    rw [RV] at ra; subst ra
    obtain ⟨xs, e1, h1⟩ := lstAt_inv h1
    obtain ⟨ys, q1, r1⟩ := hg1 _ _ e1
    exact ⟨p, ys, rfl, SqL.of q1, fun l nl => new_lst hg1 nl r1.reverse h1 (kq.at f1)⟩
  | scr xs =>
    obtain ⟨p, ys, rfl, ht, hr⟩ := rv_scr_inv ra
    exact ⟨p, ys, rfl, by rw [hK]; exact ht.sq, fun l nl => new_lst hg1 nl hr.reverse h1 (kq.at f1)⟩
  | lv xs =>
    obtain ⟨p, ys, rfl, ht, hr⟩ := rv_lv_inv ra
    exact ⟨p, ys, rfl, by rw [hK]; exact ht.sq, fun l nl => new_lst hg1 nl hr.reverse h1 (kq.at f1)⟩
  | _ => exact h1.elim
theorem l_dic1 {tk tv : TE3} {σ : L2.St} {H : Hp} {Q : VK} (h : liftE E w (fun x s g q => ∀ p, g p = none → tk x s (gup g p (.dic false [])) fun y g1 => tv x s g1 fun z g2 => g2 p = some (.dic false []) ∧ ∃ c, toKey y = some c ∧ q (.ref p) (gup g2 p (.dic false [(c, z)]))) σ H Q) :
    tDisp [(liftE E w tk, liftE E w tv)] σ H Q := by
  obtain ⟨s, g, q, x, hs, hg, h, kq, kx⟩ := h
  intro p np
  have f0 : FK g H (gup g p (.dic false [])) (upd H p (.dK [])) := FK.new np
  have t0 := f0.tk hg
  have hg0 : GR E (gup g p (.dic false [])) (upd H p (.dK [])) := hg.new (o := .dic false []) np ⟨[], upd_same, rfl, .nil⟩
  refine ⟨s, _, _, x, hs.keep t0, hg0, h p (hg.free np), fun a g1 v H1 hg1 ra f1 h1 => ?_, kx.at f0⟩
  have t1 := f1.tk hg0
  refine ⟨s, g1, _, x, (hs.keep t0).keep t1, hg1, h1, fun b g2 u H2 hg2 rb f2 h2 => ?_, kx.at (f0.trans f1)⟩
  obtain ⟨eg, c, ec, h2⟩ := h2
  obtain ⟨l, hd, e1, e2⟩ := hg2 _ _ eg
  have el : l = [] := by simpa using e1.symm
  subst el
  have ev := rv_key ec (ra.keep (f2.tk hg1))
  subst ev
  have t : TK H2 (upd H2 p (.dK [(c, u)])) := hg2.tk eg
  refine ⟨hd, [(c, u)], rfl, Nat.le_of_ble_eq_true rfl, ?_⟩
  show Q (.ref p) (upd H2 p (.dK [(c, u)]))
  exact kq _ _ _ _ (hg2.wr (o' := .dic false [(c, b)]) eg ⟨_, upd_same, rfl, .cons (rb.keep t) .nil⟩) rv_ref (((f0.trans f1).trans f2).trans (FK.wr eg hd (fun _ _ z => nomatch z))) h2
theorem l_dic2 {tk tv tk2 tv2 : TE3} {σ : L2.St} {H : Hp} {Q : VK} (h : liftE E w (fun x s g q => ∀ p, g p = none → tk x s (gup g p (.dic false [])) fun y g1 => tv x s g1 fun z g2 => tk2 x s g2 fun y2 g3 => tv2 x s g3 fun z2 g4 => g4 p = some (.dic false []) ∧ ∃ c c2, toKey y = some c ∧ toKey y2 = some c2 ∧ c ≠ c2 ∧ q (.ref p) (gup g4 p (.dic false [(c, z), (c2, z2)]))) σ H Q) :
    tDisp [(liftE E w tk, liftE E w tv), (liftE E w tk2, liftE E w tv2)] σ H Q := by
  obtain ⟨s, g, q, x, hs, hg, h, kq, kx⟩ := h
  intro p np
  have f0 : FK g H (gup g p (.dic false [])) (upd H p (.dK [])) := FK.new np
  have t0 := f0.tk hg
  have hg0 : GR E (gup g p (.dic false [])) (upd H p (.dK [])) := hg.new (o := .dic false []) np ⟨[], upd_same, rfl, .nil⟩
  refine ⟨s, _, _, x, hs.keep t0, hg0, h p (hg.free np), fun a g1 v H1 hg1 ra f1 h1 => ?_, kx.at f0⟩
  have t1 := f1.tk hg0
  refine ⟨s, g1, _, x, (hs.keep t0).keep t1, hg1, h1, fun b g2 u H2 hg2 rb f2 h2 => ?_, kx.at (f0.trans f1)⟩
  have t2 := f2.tk hg1
  refine ⟨s, g2, _, x, ((hs.keep t0).keep t1).keep t2, hg2, h2, fun a2 g3 v2 H3 hg3 ra2 f3 h3 => ?_, kx.at ((f0.trans f1).trans f2)⟩
  have t3 := f3.tk hg2
  refine ⟨s, g3, _, x, (((hs.keep t0).keep t1).keep t2).keep t3, hg3, h3, fun b2 g4 u2 H4 hg4 rb2 f4 h4 => ?_, kx.at (((f0.trans f1).trans f2).trans f3)⟩
  have t4 := f4.tk hg3
  obtain ⟨eg, c, c2, ec, ec2, hne, h4⟩ := h4
  obtain ⟨l, hd, e1, e2⟩ := hg4 _ _ eg
  have el : l = [] := by simpa using e1.symm
  subst el
  have ev := rv_key ec (((ra.keep t2).keep t3).keep t4)
  subst ev
  have ev2 := rv_key ec2 (ra2.keep t4)
  subst ev2
  have t : TK H4 (upd H4 p (.dK [(c, u), (c2, u2)])) := hg4.tk eg
  have em : mergeK [] [(c, u), (c2, u2)] = [(c, u), (c2, u2)] := by
    simp [mergeK, putK, hne]
  refine ⟨hd, [(c, u), (c2, u2)], rfl, Nat.le_of_ble_eq_true rfl, ?_⟩
  rw [em]
  exact kq _ _ _ _ (hg4.wr (o' := .dic false [(c, b), (c2, b2)]) eg ⟨_, upd_same, rfl, .cons (((rb.keep t3).keep t4).keep t) (.cons (rb2.keep t) .nil)⟩) rv_ref (((((f0.trans f1).trans f2).trans f3).trans f4).trans (FK.wr eg hd (fun _ _ z => nomatch z))) h4
end
section
variable {E : Env3} {g g' : G} {H H' : Hp} {w : WX}
theorem frz_at (hg : GR E g H) {p : Addr} {xs : List W} (eg : g p = some (.lst xs)) : ∃ ys, H p = some (.lst ys) ∧ RVs E.K H xs ys ∧ ∀ od, GR E (gdel g p) (upd H p (.frz od (.lst ys))) ∧ FK g H (gdel g p) (upd H p (.frz od (.lst ys))) ∧ TK H (upd H p (.frz od (.lst ys))) ∧ RV E.K (upd H p (.frz od (.lst ys))) (.lv xs) (.ref p) := by
  obtain ⟨ys, e, r⟩ := hg _ _ eg
  refine ⟨ys, e, r, fun od => ?_⟩
  have t : TK H (upd H p (.frz od (.lst ys))) := hg.tk eg
  refine ⟨fun a o q => ?_, ⟨fun a u h n => ?_, fun a o u h => ?_⟩, t, ?_⟩
  · by_cases z : a = p
    · subst z; rw [gdel_same] at q; cases q
    · rw [gdel_ne z] at q; exact (hg a o q).keep t (upd_ne z)
  · have z : a ≠ p := fun z => by subst z; rw [eg] at n; cases n
    exact ⟨by rw [upd_ne z]; exact h, by rw [gdel_ne z]; exact n⟩
  · have z : a ≠ p := fun z => by subst z; rw [e] at h; cases h
    rw [upd_ne z]; exact h
  · rw [RV]; exact ⟨p, ys, rfl, ⟨od, upd_same⟩, r.keep t⟩
theorem l_frz {te : TE3} {σ : L2.St} {H : Hp} {Q : VK} (h : liftE E w (fun x s g q => te x s g fun w g1 => frzS w g1 q) σ H Q) : tLk (liftE E w te) σ H Q := by
  obtain ⟨s, g, q, x, hs, hg, h, kq, kx⟩ := h
  refine ⟨s, g, _, x, hs, hg, h, fun a g1 v H1 hg1 ra f1 h1 => ?_, kx⟩
  have out : (∀ p xs, a = .ref p → g1 p = some (.lst xs) → False) → Q v H1 := fun n => by
    refine kq a g1 v H1 hg1 ra f1 ?_
    change frzS a g1 q at h1
    unfold frzS at h1
    split at h1
    · rename_i p
      split at h1
      · rename_i xs e; exact (n p xs rfl e).elim
      · exact h1
    · exact h1
  cases a with
  | ref p =>
    cases e : g1 p with
    | none => exact .inl (out fun p' xs e1 e2 => by cases e1; rw [e] at e2; cases e2)
    | some o =>
      cases o with
      | lst xs =>
        obtain ⟨ys, ey, r, k⟩ := frz_at hg1 e
        have ev : v = .ref p := by rw [RV] at ra; exact ra
        subst ev
        have h2 : q (.lv xs) (gdel g1 p) := by
          change frzS (.ref p) g1 q at h1
          unfold frzS at h1
          simpa only [e] using h1
        exact .inr ⟨p, _, rfl, ey, trivial, fun od => kq _ _ _ _ (k od).1 (k od).2.2.2 (f1.trans (k od).2.1) h2⟩
      | _ => exact .inl (out fun p' xs e1 e2 => by cases e1; rw [e] at e2; cases e2)
  | _ => exact .inl (out fun p' xs e1 e2 => by cases e1)
def tFz (t : TS) : TS := fun D σ H => t { D with nx := fun σ' H' => D.nx σ' H' ∨ ∃ d u, H' d = some u ∧ Mut (some u) ∧ ∀ od, D.nx σ' (upd H' d (.frz od u)) } σ H
theorem ps_fz {X : Cx} {st : Stmt} {t : TS} (h : PS X st t) : PS X st (tFz t) := by
  refine ⟨fun pins s σ H D I hw => ?_⟩
  refine thn (h.run pins s σ H _ I hw) fun f s1 q => ?_
  cases f with
  | next =>
    obtain ⟨σ', H', I2, q⟩ := q
    rcases q with q | ⟨d, u, hd, mu, q⟩
    · exact ⟨σ', _, I2, q⟩
    · obtain ⟨od, I3⟩ := I2.lock hd mu
      exact ⟨σ', _, I3, q od⟩
  | brk => exact q
  | cont => exact q
  | ret v => exact q
theorem frzI_out {i : Nat} {s : Sx} {g : G} {k : Sx → G → Prop} (h : frzI i s g k) (n : ∀ a xs, s[i]? = some (some (.ref a)) → g a = some (.lst xs) → False) : k s g := by
  unfold frzI at h
  split at h
  · rename_i a e1
    split at h
    · rename_i xs e2; exact (n a xs e1 e2).elim
    · exact h
  · exact h
theorem frzI_kn {i : Nat} {P : Sx → G → Prop} {N : L2.St → Hp → Prop} (k : KN E g H P N) :
    KN E g H (fun s g => frzI i s g P) (fun σ' H' => N σ' H' ∨ ∃ d u, H' d = some u ∧ Mut (some u) ∧ ∀ od, N σ' (upd H' d (.frz od u))) := fun s' g' σ' H' r1 r2 f n => by
  have n : frzI i s' g' P := n
  by_cases z : ∃ a xs, s'[i]? = some (some (.ref a)) ∧ g' a = some (.lst xs)
  · obtain ⟨a, xs, e1, e2⟩ := z
    obtain ⟨ys, ey, r, kk⟩ := frz_at r2 e2
    have n2 : P (s'.set i (some (.lv xs))) (gdel g' a) := by
      unfold frzI at n
      rw [e1] at n
      simpa only [e2] using n
    refine .inr ⟨a, _, ey, trivial, fun od => ?_⟩
    obtain ⟨v, ev, rv⟩ := r1.get e1
    rw [RV] at rv
    subst rv
    have r3 := SR.set (kk od).2.2.2 i (r1.keep (kk od).2.2.1)
    have es : σ'.set i (some (.ref a)) = σ' := by
      obtain ⟨hi, ei⟩ := List.getElem?_eq_some_iff.mp ev
      rw [← ei]; exact List.set_getElem_self hi
    rw [es] at r3
    exact k _ _ σ' _ r3 (kk od).1 (f.trans (kk od).2.1) n2
  · exact .inl (k s' g' σ' H' r1 r2 f (frzI_out n fun a xs e1 e2 => z ⟨a, xs, e1, e2⟩))
theorem l_fz {i : Nat} {ta : TS3} {D : Ends} {σ : L2.St} {H : Hp} (h : liftS E w (fun D s g => ta { D with nx := fun s' g' => frzI i s' g' D.nx } s g) D σ H) : tFz (liftS E w ta) D σ H := by
  obtain ⟨s, g, d, hs, hg, h, kd⟩ := h
  exact ⟨s, g, _, hs, hg, h, ⟨frzI_kn kd.nx, kd.rt, kd.bk, kd.ct, kd.ex⟩⟩
end
end L3
set_option maxRecDepth 100000
set_option maxHeartbeats 4000000
namespace PySem.SeqAt
open AutoSeq1 (wpAny_loadPart')
open MeetsSeq MeetsSeq2 MeetsSeq3 SeqRoads2
section
variable {prog : Program} {w : World}
theorem unlike_run {l b : Addr} {xs ys : Array Value} {p q : Nat} {d1 d2 : Option Addr} {t1 t2 : Array (Option Value)} {e : Nat → Bool} (hs : xs.size = ys.size) : ∀ m i : Nat, i + m = xs.size →
    MeetsIn prog w (Builtin.«list.__eq__.loop» ⟨[.ref l, .ref b, rawInt i, rawInt 3], []⟩) (fun A R s => (s.heap.get? l = some ⟨.type "list", d1, .seq xs p, t1⟩ ∧ s.heap.get? b = some ⟨.type "list", d2, .seq ys q, t2⟩) ∧
      (∀ j (h1 : j < xs.size) (h2 : j < ys.size), EqIn prog w A.in1 s xs[j] ys[j] (e j)) ∧ R (.ok (.ret (.bool ((List.range' i m).any fun j => !e j)))) s) := by
  intro m
  induction m with
  | zero =>
    rintro i hi A R ⟨hp, g, d, tk, os⟩ ⟨⟨a1, a2⟩, _, h⟩
    wp_walk using wpAny_loadPart' a1, wpAny_loadPart' a2
    have z1 : xs[((i : Nat) : Int).toNat]? = none := by simp; omega
    have z2 : ys[((i : Nat) : Int).toNat]? = none := by simp; omega
    rw [z1, z2]
    wp_walk using wpAny_loadPart' a1, wpAny_loadPart' a2
    show R (.ok (.ret (.bool (xs.size != ys.size)))) _
    rw [hs]
    simpa using h
  | succ m ih =>
    rintro i hi A R ⟨hp, g, d, tk, os⟩ ⟨⟨a1, a2⟩, he, h⟩
    wp_walk using wpAny_loadPart' a1, wpAny_loadPart' a2
    have l1 : i < xs.size := by omega
    have l2 : i < ys.size := by omega
    have z1 : xs[((i : Nat) : Int).toNat]? = some xs[i] := by simp [l1]
    have z2 : ys[((i : Nat) : Int).toNat]? = some ys[i] := by simp [l2]
    rw [List.range'_succ, List.any_cons] at h
    rw [z1, z2]
    refine wpAny_bind (he i l1 l2 _ _ ?_)
    cases k : e i with
    | true =>
      rw [k] at h
      wp_walk
      rw [show ((i : Int) + 1) = ((i + 1 : Nat) : Int) from rfl]
      refine ⟨plainId_quiet plain_eq_loop _, codeAny_builtin entry_eq_loop ?_⟩
      rw [Around.under_plainId plain_eq_loop _]
      exact ih (i + 1) (by omega) A R _ ⟨⟨a1, a2⟩, he, by simpa using h⟩
    | false =>
      rw [k] at h
      wp_walk using wpAny_loadPart' a1, wpAny_loadPart' a2
      rw [z1, z2]
      wp_walk
      simpa using h
theorem unlike_lists {l b : Addr} {xs ys : Array Value} {p q : Nat} {d1 d2 : Option Addr} {t1 t2 : Array (Option Value)} {e : Nat → Bool} (hs : xs.size = ys.size) :
    MeetsIn prog w (Builtin.«list.__ne__» ⟨[.ref l, .ref b], []⟩) (fun A R s => (s.heap.get? l = some ⟨.type "list", d1, .seq xs p, t1⟩ ∧ s.heap.get? b = some ⟨.type "list", d2, .seq ys q, t2⟩) ∧
      (∀ j (h1 : j < xs.size) (h2 : j < ys.size), EqIn prog w A.in1 s xs[j] ys[j] (e j)) ∧ R (.ok (.ret (.bool (!(List.range xs.size).all e)))) s) := by
  rintro A R ⟨hp, g, d, tk, os⟩ ⟨⟨a1, a2⟩, he, h⟩
  have f3 := AutoSeq1.sub_list_list
  have hne : ¬ (xs.size != ys.size) = true := by simp [hs]
  wp_walk using wpAny_loadPart' a1, wpAny_loadPart' a2
  refine ⟨plainId_quiet plain_eq_loop _, codeAny_builtin entry_eq_loop ?_⟩
  rw [Around.under_plainId plain_eq_loop _]
  have e2 : ((List.range' 0 xs.size).any fun j => !e j) = !(List.range xs.size).all e := by
    rw [← List.range_eq_range', List.not_all_eq_any_not]
  exact unlike_run hs xs.size 0 (Nat.zero_add _) A R _ ⟨⟨a1, a2⟩, he, by rw [e2]; exact h⟩
end
end PySem.SeqAt
namespace PySem.W
open PySem PySem.Calls PyProof.Rows PySem.SeqAt
theorem ne_listsT {prog : Program} {w : World} {A : Around} {E : Value → Shared → Prop} {s : Shared} {n : Nat} {l b : Addr} {xs ys : Array Value} {e : Nat → Bool} {Q : Value → Shared → Prop} (hl : s.heap.IsList l xs) (hb : s.heap.IsList b ys) (hs : xs.size = ys.size)
    (t : ∀ j (h1 : j < xs.size) (h2 : j < ys.size), EqTree prog w s n xs[j] ys[j] (e j)) (hu : A.units + (n + 1) < cLine) (h : Q (.bool (!(List.range xs.size).all e)) s) : wpAny (model prog w) A (compareOp .NotEq (.ref l) (.ref b)) Q E s := by
  obtain ⟨⟨c1, d1, k1, t1⟩, o1, r1, m1, s1⟩ := id hl
  obtain ⟨⟨c2, d2, k2, t2⟩, o2, r2, m2, s2⟩ := id hb
  simp only at r1 s1 r2 s2
  subst r1 s1 r2 s2
  exact wpAny_richCompare_same_room (T := "list") (op := .NotEq) ⟨_, o1, rfl⟩ ⟨_, o2, rfl⟩ PySem.F.slot_list_ne (call_meetsIn PySem.F.slot_list_ne ⟨_, o1, rfl⟩ PySem.F.entry_list_ne (PySem.F.args_list_ne_2 _ _) (unlike_lists hs)
    ⟨⟨o1, o2⟩, fun j h1 h2 => (t j h1 h2).at A.in1 (by show A.units + 1 + n < cLine; omega), show Value.bool (!(List.range xs.size).all e) ≠ Value.notImplemented ∧ Q (.bool (!(List.range xs.size).all e)) s from ⟨(fun x => nomatch x), h⟩⟩) (by omega)
end PySem.W
namespace PySem.W
open PySem PySem.Calls PyProof.Rows PySem.SeqAt
theorem ne_dictsT {prog : Program} {w : World} {A : Around} {E : Value → Shared → Prop} {s : Shared} {K : Type} [DecidableEq K] {knd : KeyKind prog w K} {n : Nat} {a b : Addr} {ka kb : List (K × Value)} {e : K → Bool} {Q : Value → Shared → Prop} (ha : (a == sysModules) = false) (hb : (b == sysModules) = false)
    (da : s.heap.DictOf knd a ka) (db : s.heap.DictOf knd b kb) (t : ∀ k v y, (k, v) ∈ ka → valueAt kb k = some y → EqTree prog w s n v y (e k)) (hu : A.units + (n + 1) < cLine)
    (h : Q (.bool (!(ka.length == kb.length && ka.all fun p => (valueAt kb p.1).isSome && e p.1))) s) : wpAny (model prog w) A (compareOp .NotEq (.ref a) (.ref b)) Q E s := by
  have hits : ka.length = kb.length → KeqHitsIn prog w A.in1 s kb ka (ka.all fun p => (valueAt kb p.1).isSome && e p.1) := fun _ => KeqHitsIn.of _ fun k v y hm hv => (t k v y hm hv).at A.in1 (by show A.units + 1 + _ < cLine; omega)
  refine wpAny_richCompare_same_room (op := .NotEq) da.typeIs db.typeIs PySem.F.slot_dict_ne (wpAny_call_entry PySem.F.slot_dict_ne da.typeIs PySem.F.entry_dict_ne ?_ (PySem.F.args_dict_ne_2 _ _)) (by omega)
  show wpAny _ _ (Builtin.Dict.dictSlotArgs "__ne__" ⟨[.ref a, .ref b], []⟩ >>= _) _ _ s
  refine wpAny_bind ?_
  unfold Builtin.Dict.dictSlotArgs
  refine wpAny_bind (wpAny_notOrdered_dict da.typeIs ?_)
  show wpAny _ _ (pure (Value.ref a, Value.ref b)) _ _ s
  refine wpAny_pure ?_
  refine wpAny_bind (wpAny_isInstance (T := "dict") db.typeIs PySem.F.sub_dict_dict ?_)
  simp only [Bool.not_true, Bool.false_eq_true, if_false]
  refine wpAny_bind (wpAny_pure (wpAny_bind (wpAny_pure ?_)))
  refine wpAny_bind (keq_samePairsIn ha hb da db hits ?_)
  refine wpAny_pure ⟨_, rfl, ?_, ?_⟩
  · exact fun x => nomatch x
  · simpa using h
end PySem.W
namespace L3
open PySem PySem.Spec L2
section
variable {X : Cx} {E : Env3} {pins : List (Addr × Obj)} {σ : L2.St} {H : Hp} {s : Shared} {g : G}
structure DR (E : Env3) (H : Hp) (ka : List (Key × W)) (va : List (Key × Value)) : Prop where
  keys : va.map (·.1) = ka.map (·.1)
  mem : ∀ k v, (k, v) ∈ va → ∃ w u, (k, w) ∈ ka ∧ RelV u v ∧ RV E.K H w u
  val : ∀ k, (dGet ka k = none ∧ PySem.valueAt va k = none) ∨ ∃ w u v, dGet ka k = some w ∧ PySem.valueAt va k = some v ∧ RelV u v ∧ RV E.K H w u
theorem dr_mem {ka : List (Key × W)} : ∀ {l : List (Key × V)} {va : List (Key × Value)}, DRel E.K H ka l → KV l va → ∀ k v, (k, v) ∈ va → ∃ w u, (k, w) ∈ ka ∧ RelV u v ∧ RV E.K H w u := by
  induction ka with
  | nil =>
    intro l va h r k v hm
    rw [h.nil_inv] at r
    cases r
    cases hm
  | cons p ka ih =>
    intro l va h r k v hm
    obtain ⟨q, l', rfl, e, rv, h'⟩ := h.cons_inv
    cases r with
    | @cons _ q2 _ va' h1 t =>
      rcases List.mem_cons.mp hm with z | z
      · subst z
        exact ⟨p.2, q.2, by rw [show k = p.1 from h1.1.symm.trans e.symm]; exact List.mem_cons_self, h1.2, rv⟩
      · obtain ⟨w, u, k1, k2, k3⟩ := ih h' t k v z
        exact ⟨w, u, List.mem_cons_of_mem _ k1, k2, k3⟩
theorem dr_of {ka : List (Key × W)} {l : List (Key × V)} {va : List (Key × Value)} (h : DRel E.K H ka l) (r : KV l va) : DR E H ka va := by
  refine ⟨r.keys.symm.trans h.keys.symm, dr_mem h r, fun k => ?_⟩
  have q := r.val k
  rcases h.get k with ⟨e1, e2⟩ | ⟨w, u, e1, e2, e3⟩
  · rw [e2] at q
    cases hv : PySem.valueAt va k with
    | none => exact .inl ⟨e1, rfl⟩
    | some v => rw [hv] at q; exact (show False from q).elim
  · rw [e2] at q
    cases hv : PySem.valueAt va k with
    | none => rw [hv] at q; exact (show False from q).elim
    | some v => rw [hv] at q; exact .inr ⟨w, u, v, e1, rfl, q, e3⟩
theorem dr_eq {ka kb : List (Key × W)} {va vb : List (Key × Value)} {e : Key → Bool} (a : DR E H ka va) (b : DR E H kb vb) : (va.length == vb.length && va.all fun p => (PySem.valueAt vb p.1).isSome && e p.1) = dEq ka kb e := by
  have l1 : va.length = ka.length := by simpa using congrArg List.length a.keys
  have l2 : vb.length = kb.length := by simpa using congrArg List.length b.keys
  have hk : ∀ k, (PySem.valueAt vb k).isSome = (dGet kb k).isSome := fun k => by
    rcases b.val k with ⟨e1, e2⟩ | ⟨w, u, v, e1, e2, _⟩
    · rw [e1, e2]; rfl
    · rw [e1, e2]; rfl
  unfold dEq
  rw [l1, l2]
  congr 1
  have e1 : (va.all fun p => (PySem.valueAt vb p.1).isSome && e p.1) = (va.map (·.1)).all fun k => (dGet kb k).isSome && e k := by
    rw [List.all_map]
    congr 1
    funext p
    simp [hk]
  have e2 : (ka.all fun p => (dGet kb p.1).isSome && e p.1) = (ka.map (·.1)).all fun k => (dGet kb k).isSome && e k := by rw [List.all_map]; rfl
  rw [e1, e2, a.keys]
theorem two_at {xs ys : List W} {us us' : List V} {vs vs' : List Value} (r : RVs E.K H xs us) (l : Vals us vs) (r' : RVs E.K H ys us') (l' : Vals us' vs') {j : Nat} (h1 : j < vs.toArray.size) (h2 : j < vs'.toArray.size) :
    ∃ x y u u', xs[j]? = some x ∧ ys[j]? = some y ∧ RV E.K H x u ∧ RV E.K H y u' ∧ RelV u vs.toArray[j] ∧ RelV u' vs'.toArray[j] := by
  have e1 : j < xs.length := by rw [← r.length, l.length]; simpa using h1
  have e2 : j < ys.length := by rw [← r'.length, l'.length]; simpa using h2
  obtain ⟨u, k1, k2⟩ := r.get (List.getElem?_eq_getElem e1)
  obtain ⟨u', k3, k4⟩ := r'.get (List.getElem?_eq_getElem e2)
  obtain ⟨v, k5, k6⟩ := l.get k1
  obtain ⟨v', k7, k8⟩ := l'.get k3
  refine ⟨_, _, u, u', List.getElem?_eq_getElem e1, List.getElem?_eq_getElem e2, k2, k4, ?_, ?_⟩
  · rw [List.getElem?_eq_getElem (by simpa using h1)] at k5; cases k5; simpa using k6
  · rw [List.getElem?_eq_getElem (by simpa using h2)] at k7; cases k7; simpa using k8
theorem tree_of (I : L2.Inv X pins σ H s) (hK : X.K = E.K) (hg : GR E g H) {n : Nat} {x y : W} {b : Bool} (h : EqW g n x y b) : ∀ {u u' : V} {v v' : Value}, RV E.K H x u → RV E.K H y u' → RelV u v → RelV u' v' → PySem.W.EqTree X.prog X.w s n v v' b := by
  induction h with
  | @data n x y d e h1 h2 p1 p2 hn =>
    intro u u' v v' r r' l l'
    obtain ⟨as, q1⟩ := Dp.reads I d u v (by rw [hK]; exact dp_of hg h1 r) l
    obtain ⟨bs, q2⟩ := Dp.reads I e u' v' (by rw [hK]; exact dp_of hg h2 r') l'
    exact .leaf fun A hu => PySem.SeqAt.eqAt_plain _ _ A s v v' as bs q1 q2 p1 p2 (by have := Nat.min_le_left d.depth e.depth; omega)
  | same =>
    intro u u' v v' r r' l l'
    rw [RV] at r r'
    subst r r'
    cases l; cases l'
    exact .same
  | @dicts n a b lk lk' ka kb e ne ha hb t ih =>
    intro u u' v v' r r' l l'
    rw [RV] at r r'
    subst r r'
    cases l; cases l'
    obtain ⟨la, hda, a1, a2⟩ := hg _ _ ha
    obtain ⟨lb, hdb, b1, b2⟩ := hg _ _ hb
    obtain ⟨_, ma, va, ra, da⟩ := dk_rd I.hok hda.rd
    obtain ⟨_, mb, vb, rb, db⟩ := dk_rd I.hok hdb.rd
    have A1 : DR E H ka va := dr_of ⟨a1, a2⟩ ra
    have B1 : DR E H kb vb := dr_of ⟨b1, b2⟩ rb
    rw [← dr_eq A1 B1]
    refine .dicts ne ma mb da db fun k v y hm hv => ?_
    obtain ⟨w, u, k1, k2, k3⟩ := A1.mem k v hm
    rcases B1.val k with ⟨e1, e2⟩ | ⟨w', u', v', e1, e2, e3, e4⟩
    · rw [hv] at e2; cases e2
    · rw [hv] at e2; cases e2
      exact ih k w w' k1 e1 k3 e4 k2 e3
  | @lists n a b xs ys e ne ha hb hl t ih =>
    intro u u' v v' r r' l l'
    rw [RV] at r r'
    subst r r'
    cases l; cases l'
    obtain ⟨va, f1, r1⟩ := hg _ _ ha
    obtain ⟨vb, f2, r2⟩ := hg _ _ hb
    obtain ⟨ia, la, pa, _⟩ := I.list (SqL.of f1)
    obtain ⟨ib, lb, pb, _⟩ := I.list (SqL.of f2)
    have hs : xs.length = ia.toArray.size := by rw [← r1.length, la.length]; simp
    have hs2 : ys.length = ib.toArray.size := by rw [← r2.length, lb.length]; simp
    rw [hs]
    refine .lists ne pa.isList pb.isList (by rw [← hs, ← hs2, hl]) fun j h1 h2 => ?_
    obtain ⟨x, y, u, u', e1, e2, k1, k2, k3, k4⟩ := two_at r1 la r2 lb h1 h2
    exact ih j x y e1 e2 k1 k2 k3 k4
theorem l_deq (hK : X.K = E.K) (hu : X.A.units + 70 < cLine) : OpR X (compareOp .Eq) (lift2 E (deqS false)) := by
  intro pins s σ H x y v u Q I rx ry ⟨a, b, g, q, ha, hb, hg, h, kq⟩
  unfold deqS at h
  split at h
  · rename_i p p'
    rw [RV] at ha hb; subst ha hb
    cases rx; cases ry
    split at h
    · rename_i lk ka lk' kb ea eb
      obtain ⟨n, e, hn, t, h⟩ := h
      obtain ⟨la, hda, a1, a2⟩ := hg _ _ ea
      obtain ⟨lb, hdb, b1, b2⟩ := hg _ _ eb
      obtain ⟨_, ma, va, ra, da⟩ := dk_rd I.hok hda.rd
      obtain ⟨_, mb, vb, rb, db⟩ := dk_rd I.hok hdb.rd
      have A1 : DR E H ka va := dr_of ⟨a1, a2⟩ ra
      have B1 : DR E H kb vb := dr_of ⟨b1, b2⟩ rb
      refine PySem.W.eq_dictsT (n := n) (e := e) ma mb da db (fun k v y hm hv => ?_) (by omega) ?_
      · obtain ⟨w, u, k1, k2, k3⟩ := A1.mem k v hm
        rcases B1.val k with ⟨e1, e2⟩ | ⟨w', u', v', e1, e2, e3, e4⟩
        · rw [hv] at e2; cases e2
        · rw [hv] at e2; cases e2
          exact tree_of I hK hg (t k w w' k1 e1) k3 e4 k2 e3
      · rw [dr_eq A1 B1]
        exact ⟨.bl _, H, I, rfl, kq _ g _ H hg rv_bl FK.refl (by simpa using h)⟩
    · rename_i xs ys ea eb
      obtain ⟨hl, n, e, hn, t, h⟩ := h
      obtain ⟨va, f1, r1⟩ := hg _ _ ea
      obtain ⟨vb, f2, r2⟩ := hg _ _ eb
      obtain ⟨ia, la, pa, _⟩ := I.list (SqL.of f1)
      obtain ⟨ib, lb, pb, _⟩ := I.list (SqL.of f2)
      have hs : xs.length = ia.toArray.size := by rw [← r1.length, la.length]; simp
      have hs2 : ys.length = ib.toArray.size := by rw [← r2.length, lb.length]; simp
      refine PySem.W.eq_listsT (n := n) (e := e) pa.isList pb.isList (by rw [← hs, ← hs2, hl]) (fun j h1 h2 => ?_) (by omega) ?_
      · obtain ⟨x, y, u, u', e1, e2, k1, k2, k3, k4⟩ := two_at r1 la r2 lb h1 h2
        exact tree_of I hK hg (t j x y e1 e2) k1 k2 k3 k4
      · rw [← hs]
        exact ⟨.bl _, H, I, rfl, kq _ g _ H hg rv_bl FK.refl (by simpa using h)⟩
    · exact h.elim
  · exact h.elim
theorem l_dne (hK : X.K = E.K) (hu : X.A.units + 70 < cLine) : OpR X (compareOp .NotEq) (lift2 E (deqS true)) := by
  intro pins s σ H x y v u Q I rx ry ⟨a, b, g, q, ha, hb, hg, h, kq⟩
  unfold deqS at h
  split at h
  · rename_i p p'
    rw [RV] at ha hb; subst ha hb
    cases rx; cases ry
    split at h
    · rename_i lk ka lk' kb ea eb
      obtain ⟨n, e, hn, t, h⟩ := h
      obtain ⟨la, hda, a1, a2⟩ := hg _ _ ea
      obtain ⟨lb, hdb, b1, b2⟩ := hg _ _ eb
      obtain ⟨_, ma, va, ra, da⟩ := dk_rd I.hok hda.rd
      obtain ⟨_, mb, vb, rb, db⟩ := dk_rd I.hok hdb.rd
      have A1 : DR E H ka va := dr_of ⟨a1, a2⟩ ra
      have B1 : DR E H kb vb := dr_of ⟨b1, b2⟩ rb
      refine PySem.W.ne_dictsT (n := n) (e := e) ma mb da db (fun k v y hm hv => ?_) (by omega) ?_
      · obtain ⟨w, u, k1, k2, k3⟩ := A1.mem k v hm
        rcases B1.val k with ⟨e1, e2⟩ | ⟨w', u', v', e1, e2, e3, e4⟩
        · rw [hv] at e2; cases e2
        · rw [hv] at e2; cases e2
          exact tree_of I hK hg (t k w w' k1 e1) k3 e4 k2 e3
      · rw [dr_eq A1 B1]
        exact ⟨.bl _, H, I, rfl, kq _ g _ H hg rv_bl FK.refl (by simpa using h)⟩
    · rename_i xs ys ea eb
      obtain ⟨hl, n, e, hn, t, h⟩ := h
      obtain ⟨va, f1, r1⟩ := hg _ _ ea
      obtain ⟨vb, f2, r2⟩ := hg _ _ eb
      obtain ⟨ia, la, pa, _⟩ := I.list (SqL.of f1)
      obtain ⟨ib, lb, pb, _⟩ := I.list (SqL.of f2)
      have hs : xs.length = ia.toArray.size := by rw [← r1.length, la.length]; simp
      have hs2 : ys.length = ib.toArray.size := by rw [← r2.length, lb.length]; simp
      refine PySem.W.ne_listsT (n := n) (e := e) pa.isList pb.isList (by rw [← hs, ← hs2, hl]) (fun j h1 h2 => ?_) (by omega) ?_
      · obtain ⟨x, y, u, u', e1, e2, k1, k2, k3, k4⟩ := two_at r1 la r2 lb h1 h2
        exact tree_of I hK hg (t j x y e1 e2) k1 k2 k3 k4
      · rw [← hs]
        exact ⟨.bl _, H, I, rfl, kq _ g _ H hg rv_bl FK.refl (by simpa using h)⟩
    · exact h.elim
  · exact h.elim
end
end L3
set_option maxRecDepth 100000
set_option maxHeartbeats 8000000
namespace L3
open PySem PySem.Spec L2
theorem prim_ty : ∀ p : Pr, (prOf p).2 = true → ∃ T, bootBuiltins (prOf p).1 = some (.type T) ∧ (T, p) ∈ [("str", Pr.str), ("int", .int), ("list", .list), ("dict", .dict)] := by
  intro p h
  cases p <;> first | (simp [prOf] at h; done) | skip
  · exact ⟨"str", by decide +kernel, by decide⟩
  · exact ⟨"int", by decide +kernel, by decide⟩
  · exact ⟨"list", by decide +kernel, by decide⟩
  · exact ⟨"dict", by decide +kernel, by decide⟩
theorem prim_bi : ∀ p : Pr, (prOf p).2 = false → ∃ T, bootBuiltins (prOf p).1 = some (.builtin T) ∧ (T, p) ∈ [("len", Pr.len), ("abs", .abs), ("max", .max), ("min", .min), ("sum", .sum), ("all", .all), ("any", .any), ("divmod", .divmod), ("sorted", .sorted)] := by
  intro p h
  cases p <;> first | (simp [prOf] at h; done) | skip
  · exact ⟨"len", by decide +kernel, by decide⟩
  · exact ⟨"abs", by decide +kernel, by decide⟩
  · exact ⟨"max", by decide +kernel, by decide⟩
  · exact ⟨"min", by decide +kernel, by decide⟩
  · exact ⟨"sum", by decide +kernel, by decide⟩
  · exact ⟨"all", by decide +kernel, by decide⟩
  · exact ⟨"any", by decide +kernel, by decide⟩
  · exact ⟨"divmod", by decide +kernel, by decide⟩
  · exact ⟨"sorted", by decide +kernel, by decide⟩
theorem prim_in : ∀ p : Pr, (prOf p).1 ∈ blts ∧ (prOf p).1 ≠ "__name__" := by intro p; cases p <;> exact ⟨by decide +kernel, by decide +kernel⟩
section
variable {X : Cx} {E : Env3} {w : WX} {CF : CF3} {gl : Gs} {ck : Ck}
theorem pr_bi (ok : CkOk ck X E w CF gl) {p : Pr} (hh : ck.hot = false ∨ hotPr p = true) {T : String} (h : (T, p) ∈ [("len", Pr.len), ("abs", .abs), ("max", .max), ("min", .min), ("sum", .sum), ("all", .all), ("any", .any), ("divmod", .divmod), ("sorted", .sorted)]) : CallR X (.builtin T) (liftL E (prS p)) := by
  simp only [List.mem_cons, Prod.mk.injEq, List.not_mem_nil, or_false] at h
  rcases h with ⟨rfl, rfl⟩ | ⟨rfl, rfl⟩ | ⟨rfl, rfl⟩ | ⟨rfl, rfl⟩ | ⟨rfl, rfl⟩ | ⟨rfl, rfl⟩ | ⟨rfl, rfl⟩ | ⟨rfl, rfl⟩ | ⟨rfl, rfl⟩
  · exact l_len ok.hK
  · exact l_abs
  · exact l_max ok.hK (ok.calm (hh.resolve_right (by decide)))
  · exact l_min ok.hK (ok.calm (hh.resolve_right (by decide))) (by have := ok.hu; omega)
  · exact l_sum ok.hK (ok.calm (hh.resolve_right (by decide)))
  · exact l_all ok.hK (ok.calm (hh.resolve_right (by decide)))
  · exact l_any ok.hK (ok.calm (hh.resolve_right (by decide)))
  · exact l_divmod
  · exact l_sorted ok.hK (ok.calm (hh.resolve_right (by decide))) (by have := ok.hu; omega)
theorem pr_ty (ok : CkOk ck X E w CF gl) {p : Pr} (hh : ck.hot = false ∨ hotPr p = true) {T : String} (h : (T, p) ∈ [("str", Pr.str), ("int", .int), ("list", .list), ("dict", .dict)]) : CallR X (.type T) (liftL E (prS p)) := by
  simp only [List.mem_cons, Prod.mk.injEq, List.not_mem_nil, or_false] at h
  rcases h with ⟨rfl, rfl⟩ | ⟨rfl, rfl⟩ | ⟨rfl, rfl⟩ | ⟨rfl, rfl⟩
  · exact l_str
  · exact l_int
  · exact l_list ok.hK (ok.calm (hh.resolve_right (by decide)))
  · exact l_dict
theorem bo_ok (ok : CkOk ck X E w CF gl) (o : Bo) : OpR X (binaryOp (boOf o)) (lift2 E (boS o)) := by
  cases o
  · exact l_add ok.hK
  · exact l_sub
  · exact l_mul
  · exact l_fdiv
  · exact l_mod
  · exact l_pow
theorem co_ok (ok : CkOk ck X E w CF gl) (o : Co) : OpR X (compareOp (coOf o)) (lift2 E (coS o)) := by
  have := ok.hu
  cases o
  · exact l_eq ok.hK (by omega)
  · exact l_ne ok.hK (by omega)
  · exact l_lt ok.hK (by omega)
  · exact l_le ok.hK (by omega)
  · exact l_gt ok.hK (by omega)
  · exact l_ge ok.hK (by omega)
  · exact l_is
  · exact l_isnot
  · exact l_in ok.hK (by omega)
  · exact l_notin ok.hK (by omega)
  · exact l_deq ok.hK (by omega)
  · exact l_dne ok.hK (by omega)
theorem s_meth (ok : CkOk ck X E w CF gl) (m : Mt) {l : Expr} {q p : Pos} {vs : List Expr} {to : TE3} {ta : TA3} (hb : plainBase l = true) (hq : (q.endLine == p.line) = true) (hl : vs.length < 20)
    (ho : PE X l (liftE E w to)) (ha : PA X vs (liftA E w ta)) (hp : ∀ v ∈ vs, plainE v = true) (hz : vs = [] → ta = aNil) :
    PE X (.Call (.Attribute l (mtOf m) q) vs [] p) (liftE E w (eM (mtS m) (mtT m) to ta)) := by
  cases vs with
  | nil =>
    have e := hz rfl
    subst e
    cases m
    · exact peI (pe_bm0 PySem.F.plainAttrs_list PySem.F.slot_list_append PySem.F.type_list_append l_append ho (base_plain hb) hq) fun _ _ _ => l_meth0 ty_lst
    · exact peI (pe_bm0 PySem.F.plainAttrs_list PySem.F.slot_list_extend PySem.F.type_list_extend l_extend ho (base_plain hb) hq) fun _ _ _ => l_meth0 ty_lst
    · exact peI (pe_bm0 PySem.F.plainAttrs_list PySem.F.slot_list_pop PySem.F.type_list_pop l_pop ho (base_plain hb) hq) fun _ _ _ => l_meth0 ty_lst
    · exact peI (pe_bm0 PySem.F.plainAttrs_str PySem.F.slot_str_join PySem.F.type_str_join (l_join ok.hK) ho (base_plain hb) hq) fun _ _ _ => l_meth0 ty_str
    · exact peI (pe_bm0 PySem.F.plainAttrs_str PySem.F.slot_str_split PySem.F.type_str_split l_split ho (base_plain hb) hq) fun _ _ _ => l_meth0 ty_str
    · exact peI (pe_bm0 PySem.F.plainAttrs_str PySem.F.slot_str_partition PySem.F.type_str_partition l_partition ho (base_plain hb) hq) fun _ _ _ => l_meth0 ty_str
    · exact peI (pe_bm0 PySem.F.plainAttrs_list PySem.F.slot_list_index PySem.F.type_list_index l_index ho (base_plain hb) hq) fun _ _ _ => l_meth0 ty_lst
    · exact peI (pe_bm0 PySem.F.plainAttrs_list PySem.F.slot_list_remove PySem.F.type_list_remove (l_remove ok.hK (by have := ok.hu; omega)) ho (base_plain hb) hq) fun _ _ _ => l_meth0 ty_lst
  | cons v vs =>
    have hs := star_plain (env := X.env) (es := vs) (hp v List.mem_cons_self)
    have hpl := star_any (env := X.env) (pos := p) fun u hu => hp u (List.mem_cons_of_mem v hu)
    have hfew : ((backTo p (starEach (v :: vs) X.env)).all (fun x => !x.1) && (backToKw p (keywordEach [] X.env)).all (fun x => x.1.isSome) && decide ((v :: vs).length + ([] : List Keyword).length + (if ([] : List Keyword).isEmpty then 0 else 1) < 30)) = true := by
      rw [star_all hp]
      simp at hl
      simp [keywordEach, backToKw]
      omega
    cases m
    · exact peI (pe_bm PySem.F.plainAttrs_list PySem.F.slot_list_append PySem.F.type_list_append l_append ho ha (base_plain hb) hfew hq hs hpl) fun _ _ _ => l_meth ty_lst
    · exact peI (pe_bm PySem.F.plainAttrs_list PySem.F.slot_list_extend PySem.F.type_list_extend l_extend ho ha (base_plain hb) hfew hq hs hpl) fun _ _ _ => l_meth ty_lst
    · exact peI (pe_bm PySem.F.plainAttrs_list PySem.F.slot_list_pop PySem.F.type_list_pop l_pop ho ha (base_plain hb) hfew hq hs hpl) fun _ _ _ => l_meth ty_lst
    · exact peI (pe_bm PySem.F.plainAttrs_str PySem.F.slot_str_join PySem.F.type_str_join (l_join ok.hK) ho ha (base_plain hb) hfew hq hs hpl) fun _ _ _ => l_meth ty_str
    · exact peI (pe_bm PySem.F.plainAttrs_str PySem.F.slot_str_split PySem.F.type_str_split l_split ho ha (base_plain hb) hfew hq hs hpl) fun _ _ _ => l_meth ty_str
    · exact peI (pe_bm PySem.F.plainAttrs_str PySem.F.slot_str_partition PySem.F.type_str_partition l_partition ho ha (base_plain hb) hfew hq hs hpl) fun _ _ _ => l_meth ty_str
    · exact peI (pe_bm PySem.F.plainAttrs_list PySem.F.slot_list_index PySem.F.type_list_index l_index ho ha (base_plain hb) hfew hq hs hpl) fun _ _ _ => l_meth ty_lst
    · exact peI (pe_bm PySem.F.plainAttrs_list PySem.F.slot_list_remove PySem.F.type_list_remove (l_remove ok.hK (by have := ok.hu; omega)) ho ha (base_plain hb) hfew hq hs hpl) fun _ _ _ => l_meth ty_lst
theorem m1_of {l v : Expr} {m : Str} {q p : Pos} (X : Cx) (hb : plainBase l = true) (hq : (q.endLine == p.line) = true) (hp : plainE v = true) : M1 X l m q v p := by
  have h1 : starEach [v] X.env = [(false, eval v X.env)] := star_plain hp
  exact ⟨base_plain hb, by rw [h1]; rfl, hq, by rw [h1]; rfl⟩
theorem m2_of {l v u : Expr} {m : Str} {q p : Pos} (X : Cx) (hb : plainBase l = true) (hq : (q.endLine == p.line) = true) (hp : plainE v = true) (hp2 : plainE u = true) : M2 X l m q v u p := by
  have h1 : starEach [v, u] X.env = [(false, eval v X.env), (false, eval u X.env)] := by rw [star_plain hp, star_plain hp2]; rfl
  exact ⟨base_plain hb, by rw [h1]; rfl, hq, by rw [h1]; rfl⟩
theorem s_call {c : List W → G → XK3 → VK3 → Prop} {y : Str} {q p : Pos} {vs : List Expr} {ta : TA3} (ok : CkOk ck X E w CF gl) (hg : isGl ck y = true) (hc : CallOk X E c y)
    (ha : PA X vs (liftA E w ta)) (hp : ∀ v ∈ vs, plainE v = true) (hz : vs = [] → ta = aNil) :
    PE X (.Call (.Name y q) vs [] p) (liftE E w (fun x s g k => ta x s g fun ws g1 => c ws g1 x k)) := by
  obtain ⟨f, hm, hk, D⟩ := hc.ex
  obtain ⟨fd, ps, k, F, hr, hb⟩ := D.ex
  obtain ⟨g1, g2⟩ := ok.gl' hg
  have run : ∀ (pins : List (Addr × Obj)) (s : Shared) (σ : L2.St) (H : Hp) (Q : VK) (us : List Value) (vs' : List V), Inv X pins σ H s → Vals vs' us →
      (∃ ws g q x, RVs E.K H ws vs' ∧ GR E g H ∧ c ws g x q ∧ KQ E g H q Q ∧ KX E g H x (fun cls d H' => w cls d σ H')) → wpAny (model X.prog X.w) X.A (PySem.call (.ref f) us) (EP X pins σ Q) X.xe s := by
    intro pins s σ H Q us vs' I r ⟨ws, g, q, x, r3, hg3, h, kq, kx⟩
    obtain ⟨ds, dvs, dws, hd, hB, hdw, hlen, h2⟩ := hb ws g x q h
    have r4 := r3.append (hdw H)
    refine run_fnSD (sp := spF E c ps.length) (E := WE w) F (hr.mono (by omega)) hB hd (passAt ok.tk σ) I r ⟨?_, ws ++ dws, g, q, x, r4, hg3, h2, kq, kx⟩
    rw [r4.length]; exact hlen
  cases vs with
  | nil =>
    have e := hz rfl
    subst e
    refine ⟨fun pins s σ H Q I h => wpAny_Call_Name_kw (ld_glob I g1 hm (PySem.W.callWith_K0 I.kIn hk ?_) g2)⟩
    have h' := l_call (n := 0) (dvs := []) (ws := []) σ H Q h
    exact run pins s σ H Q [] [] I .nil (l_nil h')
  | cons v vs =>
    refine ⟨fun pins s σ H Q I h => wpAny_Call_Name_kw (ld_glob I g1 hm ?_ g2)⟩
    have h' := l_call (n := 0) (dvs := []) (ws := []) σ H Q h
    refine PySem.W.callWith_K (h₀ := X.base) I.ok.mod.kin hk (thn (ha.run p pins s σ H _ I h') fun us s1 hu => ?_) (star_plain (hp v List.mem_cons_self)) (star_any fun u hu => hp u (List.mem_cons_of_mem v hu))
    obtain ⟨vs', H1, I1, r, q1⟩ := hu
    exact ⟨I1.kIn, run pins s1 σ H1 Q us vs' I1 r q1⟩
end
end L3
set_option maxRecDepth 100000
set_option maxHeartbeats 8000000
namespace L2
open PySem PySem.Spec PyProof.Rows
section
variable {X : Cx} {CX : CXT} {k : Nat} {f C : Addr} {fd : FuncData} {ps : List Str} {sp : Sp} {dvs : List V} {ds : List Value}
theorem run_makeA {E : XK} {pins : List (Addr × Obj)} {σ : St} {H : Hp} {s : Shared} {Q : VK} {us : List Value} {vs : List V} (M : Mk X.K C f) (F : FnOk X.prog X.w X.K X.mg X.base CX k f fd ps sp) (hr : Room (k + 1) X.A) (hb : Binds X.K fd ps ds) (hd : Vals dvs ds)
    (hx : PassesAt CX X σ E) (I : Inv X pins σ H s) (r : Vals vs us)
    (hq : sp (.ref (s.heap.objs.size + 1) :: (vs ++ dvs)) (upd (upd H s.heap.objs.size (.own (s.heap.objs.size + 1))) (s.heap.objs.size + 1) (.ins C s.heap.objs.size [])) (fun v H2 => v = .non ∧ Q (.ref (s.heap.objs.size + 1)) H2) E) :
    wpAny (model X.prog X.w) X.A (call (.ref C) us) (EP X pins σ Q) X.xe s := by
  have I2 := Inv.made (C := C) I
  have r2 : Vals (V.ref (s.heap.objs.size + 1) :: (vs ++ dvs)) (Value.ref (s.heap.objs.size + 1) :: (us ++ ds)) := .cons rfl (r.append hd)
  have hl : (Value.ref (s.heap.objs.size + 1) :: us ++ ds).length = ps.length := by
    have e := r2.length
    rw [F.len _ _ _ _ hq] at e
    exact e.symm
  refine wpAny_call (make_map (f := f) I.kIn M.makes M.init (beq_iff_eq.mp M.fn) (codeAny_mono (F.run _ X.stack _ _ ⟨Value.ref (s.heap.objs.size + 1) :: us, []⟩ (Value.ref (s.heap.objs.size + 1) :: (us ++ ds)) _ _ E (hr.make C us [])
    (I2.env0.make C us []) (hb _ (Value.ref (s.heap.objs.size + 1) :: us) I2.kIn hl) r2 hq) fun r s' hq' => ?_))
  cases r with
  | error e => exact hx pins _ _ e s' I2 hq'
  | ok fl =>
    cases fl with
    | ret u =>
      obtain ⟨v, H', I3, rv, ev, q3⟩ := I2.after hq'
      subst ev
      exact ⟨rv, ⟨V.ref (s.heap.objs.size + 1), H', I3, rfl, q3⟩⟩
    | next => exact False.elim hq'
    | brk => exact False.elim hq'
    | cont => exact False.elim hq'
theorem ev_meth3 {env : Env} {o : Expr} {m : Str} {apos pos : Pos} {args : List Expr} (hbase : attributeBase o m env (eval o env) = eval o env)
    (hform : methodCallForm (args.length + ([] : List Keyword).length) (backTo pos (starEach args env)) (backToKw pos (keywordEach [] env)) = true) (hline : (apos.endLine == pos.line) = true) :
    eval (.Call (.Attribute o m apos) args [] pos) env = (do
      let ov ← eval o env
      standAt apos.atName
      let (f, first) ← holding [ov] (getMethod ov m (do return (← importBound o env).getD true))
      callWith pos f first (backTo pos (starEach args env)) (backToKw pos (keywordEach [] env))) := by
  have hpos : methodCallPos true o env apos pos = pure pos := by unfold methodCallPos; simp [hline]
  rw [arm_eval_Call, hbase]
  unfold methodCall
  rw [hform, hpos]
  unfold calleeOf
  rfl
end
end L2
namespace L3
open PySem PySem.Spec L2
section
variable {X : Cx} {E : Env3} {w : WX} {CF : CF3} {gl : Gs} {ck : Ck}
theorem map_lookup {f : Str} : ∀ {fs : List (Str × W)} {l : List (Str × V)} {K : PySem.W.Frag} {H : Hp} {v : W}, fs.map (·.1) = l.map (·.1) → RVs K H (fs.map (·.2)) (l.map (·.2)) → fs.lookup f = some v → ∃ u, l.lookup f = some u ∧ RV K H v u
  | [], _, _, _, _, _, _, e => by cases e
  | (a, x) :: fs, l, K, H, v, e1, e2, e => by
    cases l with
    | nil => simp at e1
    | cons q l =>
      obtain ⟨b, y⟩ := q
      simp only [List.map_cons, List.cons.injEq] at e1
      obtain ⟨rfl, e1⟩ := e1
      obtain ⟨y', r', ee, h1, h2⟩ := RVs.cons_inv e2
      simp only [List.map_cons, List.cons.injEq] at ee
      obtain ⟨rfl, rfl⟩ := ee
      rw [List.lookup_cons] at e ⊢
      cases hb : (f == a) with
      | true => rw [hb] at e; cases e; exact ⟨y, rfl, h1⟩
      | false => rw [hb] at e; exact map_lookup e1 h2 e
theorem putG_put {f : Str} {v : W} {u : V} {K : PySem.W.Frag} {H : Hp} (r : RV K H v u) : ∀ {fs : List (Str × W)} {l : List (Str × V)}, fs.map (·.1) = l.map (·.1) → RVs K H (fs.map (·.2)) (l.map (·.2)) →
    (putG f v fs).map (·.1) = (putF f u l).map (·.1) ∧ RVs K H ((putG f v fs).map (·.2)) ((putF f u l).map (·.2))
  | [], l, e1, e2 => by
    cases l with
    | nil => exact ⟨rfl, .cons r .nil⟩
    | cons _ _ => simp at e1
  | (a, x) :: fs, l, e1, e2 => by
    cases l with
    | nil => simp at e1
    | cons q l =>
      obtain ⟨b, y⟩ := q
      simp only [List.map_cons, List.cons.injEq] at e1
      obtain ⟨rfl, e1⟩ := e1
      obtain ⟨y', r', ee, h1, h2⟩ := RVs.cons_inv e2
      simp only [List.map_cons, List.cons.injEq] at ee
      obtain ⟨rfl, rfl⟩ := ee
      unfold putG putF
      by_cases z : a = f
      · rw [if_pos z, if_pos z]; exact ⟨by simp [e1], .cons r h2⟩
      · rw [if_neg z, if_neg z]
        obtain ⟨k1, k2⟩ := putG_put r e1 h2
        exact ⟨by simp [k1], .cons h1 k2⟩
theorem putG_mem {f : Str} {v : W} {fl : List Str} (hf : f ∈ fl) : ∀ {fs : List (Str × W)}, (∀ x ∈ fs.map (·.1), x ∈ fl) → ∀ x ∈ (putG f v fs).map (·.1), x ∈ fl
  | [], _, x, hx => by simp [putG] at hx; subst hx; exact hf
  | (a, y) :: fs, h, x, hx => by
    unfold putG at hx
    split at hx
    · exact h x (by simpa using hx)
    · simp only [List.map_cons, List.mem_cons] at hx
      rcases hx with rfl | hx
      · exact h _ (by simp)
      · exact putG_mem hf (fun z hz => h z (by simp only [List.map_cons, List.mem_cons]; exact .inr hz)) x hx
theorem lookup_none {α : Type} {f : Str} : ∀ {fs : List (Str × α)}, f ∉ fs.map (·.1) → fs.lookup f = none
  | [], _ => rfl
  | (a, x) :: fs, h => by
    simp only [List.map_cons, List.mem_cons, not_or] at h
    rw [List.lookup_cons, show (f == a) = false by simpa using h.1]
    exact lookup_none h.2
theorem s_attr (ok : CkOk ck X E w CF gl) {l : Expr} {f : Str} {p : Pos} {to : TE3} (hb : plainBase l = true) (hf : f ∈ ck.fl) (ho : PE X l (liftE E w to)) : PE X (.Attribute l f p) (liftE E w (fun x s g q => to x s g fun a g1 => attrS f a g1 q)) := by
  refine peI (pe_fld ho (base_plain hb)) fun σ H Q h => ?_
  obtain ⟨s, g, q, x, hs, hg, h, kq, kx⟩ := h
  refine ⟨s, g, _, x, hs, hg, h, fun a g1 v H1 hg1 ra f1 h1 => ?_, kx⟩
  change attrS f a g1 q at h1
  unfold attrS at h1
  split at h1
  · rename_i p
    rw [RV] at ra; subst ra
    split at h1
    · rename_i c fs eg
      obtain ⟨o1, o2, dx, l, e, q1, q2⟩ := hg1 _ _ eg
      split at h1
      · rename_i v ev
        obtain ⟨u, eu, ru⟩ := map_lookup q1 q2 ev
        refine ⟨p, _, dx, l, u, rfl, e, by have := ok.cl.cls c o1; exact this, ok.cl.noat c o1 f (by rw [ok.cl.fl]; exact hf), eu, kq _ g1 _ H1 hg1 ru f1 h1⟩
      · exact h1.elim
    · exact h1.elim
  · exact h1.elim
theorem s_seta (ok : CkOk ck X E w CF gl) {l v : Expr} {f : Str} {p p' : Pos} {to te : TE3} (hf : f ∈ ck.fl) (hs : swapsWith v (some (.Attribute l f p')) p.line X.env = pure false) (ho : PE X l (liftE E w to)) (he : PE X v (liftE E w te)) :
    PS X (.Assign [.Attribute l f p'] v p) (liftS E w (fun D s g => te (D.xk s) s g fun v g1 => to (D.xk s) s g1 fun a g2 => setaS f a v g2 fun g3 => D.nx s g3)) := by
  refine psI (ps_fld ho he hs) fun D σ H h => ?_
  obtain ⟨s, g, d, hs, hg, h, kd⟩ := h
  have kx := kd.xk hs hg
  refine ⟨s, g, _, _, hs, hg, h, fun c g1 u H1 hg1 rc f1 h1 => ?_, kx⟩
  have t1 := f1.tk hg
  refine ⟨s, g1, _, _, hs.keep t1, hg1, h1, fun a g2 u2 H2 hg2 ra f2 h2 => ?_, kx.at f1⟩
  have t2 := f2.tk hg1
  change setaS f a c g2 _ at h2
  unfold setaS at h2
  split at h2
  · rename_i p
    rw [RV] at ra; subst ra
    split at h2
    · rename_i cn fs eg
      obtain ⟨hl, h2⟩ := h2
      obtain ⟨o1, o2, dx, l, e, q1, q2⟩ := hg2 _ _ eg
      have t : TK H2 (upd H2 p (.ins (E.ocl cn) dx (putF f u l))) := hg2.tk eg
      obtain ⟨k1, k2⟩ := putG_put (f := f) ((rc.keep t2).keep t) q1 (q2.keep t)
      have hll : l.length < 1000 := by have := congrArg List.length q1; simp at this; omega
      refine ⟨p, _, dx, l, rfl, e, ok.cl.cls cn o1, ok.cl.noat cn o1 f (by rw [ok.cl.fl]; exact hf), hll, ?_⟩
      exact kd.nx s _ σ _ (((hs.keep t1).keep t2).keep t) (hg2.wr (o' := .ins cn (putG f c fs)) eg ⟨o1, putG_mem (by rw [ok.cl.fl]; exact hf) o2, dx, _, upd_same, k1, k2⟩) ((f1.trans f2).trans (FK.wr eg e (fun _ _ z => nomatch z))) h2
    · exact h2.elim
  · exact h2.elim
theorem few3 {vs : List Expr} {p : Pos} {env : Env} (hl : vs.length < 20) (hp : ∀ v ∈ vs, plainE v = true) : methodCallForm (vs.length + ([] : List Keyword).length) (backTo p (starEach vs env)) (backToKw p (keywordEach [] env)) = true := by
  unfold methodCallForm
  rw [star_all hp]
  simp [keywordEach, backToKw]
  omega
theorem s_mcall (ok : CkOk ck X E w CF gl) (hh : ck.hot = false) {l : Expr} {m : Str} {q p : Pos} {vs : List Expr} {to : TE3} {ta : TA3} (hb : plainBase l = true) (hq : (q.endLine == p.line) = true) (hm : m ∉ ck.fl) (hl : vs.length < 20)
    (ho : PE X l (liftE E w to)) (ha : PA X vs (liftA E w ta)) (hp : ∀ v ∈ vs, plainE v = true) (hz : vs = [] → ta = aNil) :
    PE X (.Call (.Attribute l m q) vs [] p) (liftE E w (fun x s g k => to x s g fun a g1 => mcS gl.ocs m a g1 fun f => ta x s g1 fun ws g2 => CF f (a :: ws) g2 x k)) := by
  refine ⟨fun pins s σ H Q I h => ?_⟩
  obtain ⟨s3, g, k, x, hs, hg, h, kq, kx⟩ := h
  refine PySem.W.methodCall_KW (thn (ho.run pins s σ H _ I ⟨s3, g, _, x, hs, hg, h, (fun a g1 v H1 hg1 ra f1 h1 => show (∃ a g1, RV E.K H1 a v ∧ GR E g1 H1 ∧ FK g H g1 H1 ∧ mcS gl.ocs m a g1 fun f => ta x s3 g1 fun ws g2 => CF f (a :: ws) g2 x k) from ⟨a, g1, ra, hg1, f1, h1⟩), kx⟩) fun u s1 ⟨v, H1, I1, rv, a, g1, ra, hg1, f1, h1⟩ => ?_) (ev_meth3 (base_plain hb) (few3 hl hp) hq)
  unfold mcS at h1
  split at h1
  · rename_i pa
    rw [RV] at ra; subst ra
    obtain rfl : u = Value.ref pa := rv
    split at h1
    · rename_i c fs eg
      obtain ⟨f, ef, h1⟩ := h1
      obtain ⟨o1, o2, dx, lv, e, q1, q2⟩ := hg1 _ _ eg
      unfold mnum at ef
      rw [Option.bind_eq_some_iff] at ef
      obtain ⟨oc, eoc, ef⟩ := ef
      rw [ok.goc] at eoc
      obtain ⟨fa, Mt, D⟩ := (ok.ob hh).meth c oc m f eoc ef
      obtain ⟨fd, ps, lvl, F, hr, hbd⟩ := D.ex
      have hno : lv.lookup m = none := lookup_none fun z => hm (by rw [← ok.cl.fl]; exact o2 m (by rw [q1]; exact z))
      refine getmeth_ok I1 e (ok.cl.cls c o1) Mt hno ?_
      have kq1 := kq.at f1
      have kx1 := kx.at f1
      have hs1 := hs.keep (f1.tk hg)
      have run : ∀ (s : Shared) (H2 : Hp) (us : List Value) (vs' : List V), Inv X pins σ H2 s → Vals vs' us → (∃ ws g2, RVs E.K H2 ws vs' ∧ GR E g2 H2 ∧ FK g1 H1 g2 H2 ∧ CF f (.ref pa :: ws) g2 x k) →
          wpAny (model X.prog X.w) X.A (PySem.call (.ref fa) (.ref pa :: us)) (EP X pins σ Q) X.xe s := by
        intro s H2 us vs' I2 r2 ⟨ws, g2, r3, hg2, f2, h2⟩
        obtain ⟨ds, dvs, dws, hd, hB, hdw, hlen, h3⟩ := hbd _ _ _ _ h2
        have r4 : RVs E.K H2 (.ref pa :: ws) (.ref pa :: vs') := .cons rv_ref r3
        have r5 := r4.append (hdw H2)
        refine run_fnSD (us := .ref pa :: us) (vs := .ref pa :: vs') (sp := spF E (CF f) ps.length) (E := WE w) F (hr.mono (by omega)) hB hd (passAt ok.tk σ) I2 (.cons rfl r2) ⟨?_, _, g2, k, x, r5, hg2, h3, kq1.at f2, ?_⟩
        · rw [r5.length]; exact hlen
        · exact kx1.at f2
      cases vs with
      | nil =>
        have e := hz rfl
        subst e
        exact PySem.W.callWith_K0 (first := [.ref pa]) I1.kIn Mt.kp (run s1 H1 [] [] I1 .nil ⟨[], g1, .nil, hg1, FK.refl, h1⟩)
      | cons z vs =>
        refine PySem.W.callWith_K (first := [.ref pa]) (h₀ := X.base) I1.ok.mod.kin Mt.kp (thn (ha.run p pins s1 σ H1 _ I1 ⟨s3, g1, _, x, hs1, hg1, h1, (fun ws g2 us H2 hg2 r f2 h2 => show (∃ ws g2, RVs E.K H2 ws us ∧ GR E g2 H2 ∧ FK g1 H1 g2 H2 ∧ CF f (.ref pa :: ws) g2 x k) from ⟨ws, g2, r, hg2, f2, h2⟩), kx1⟩) fun us s2 hu => ?_) (star_plain (hp z List.mem_cons_self)) (star_any fun u hu => hp u (List.mem_cons_of_mem z hu))
        obtain ⟨vs', H2, I2, r, q1⟩ := hu
        exact ⟨I2.kIn, run s2 H2 us vs' I2 r q1⟩
    · exact h1.elim
  · exact h1.elim
theorem s_new (ok : CkOk ck X E w CF gl) (hh : ck.hot = false) {c f : Nat} {oc : OC3} {y : Str} {q p : Pos} {vs : List Expr} {ta : TA3} (hc : ck.ocs[c]? = some oc) (hn : oc.name = y) (hi : oc.init = f) (hgl : isGl ck y = true)
    (ha : PA X vs (liftA E w ta)) (hp : ∀ v ∈ vs, plainE v = true) (hz : vs = [] → ta = aNil) :
    PE X (.Call (.Name y q) vs [] p) (liftE E w (fun x s g k => ta x s g fun ws g1 => ∀ a, g1 a = none → CF f (.ref a :: ws) (gup g1 a (.ins c [])) x fun v g2 => v = .non ∧ k (.ref a) g2)) := by
  subst hn hi
  obtain ⟨fa, M, hm, D, _⟩ := (ok.ob hh).mkr c oc hc
  obtain ⟨fd, ps, lvl, F, hr, hbd⟩ := D.ex
  obtain ⟨g1, g2⟩ := ok.gl' hgl
  have hon : c < E.on := by rw [ok.cl.on]; exact (List.getElem?_eq_some_iff.mp hc).1
  have run : ∀ (pins : List (Addr × Obj)) (s : Shared) (σ : L2.St) (H : Hp) (Q : VK) (us : List Value) (vs' : List V), Inv X pins σ H s → Vals vs' us →
      (∃ ws g k x, RVs E.K H ws vs' ∧ GR E g H ∧ (∀ a, g a = none → CF oc.init (.ref a :: ws) (gup g a (.ins c [])) x fun v g2 => v = .non ∧ k (.ref a) g2) ∧ KQ E g H k Q ∧ KX E g H x (fun cls d H' => w cls d σ H')) →
      wpAny (model X.prog X.w) X.A (PySem.call (.ref (E.ocl c)) us) (EP X pins σ Q) X.xe s := by
    intro pins s σ H Q us vs' I r ⟨ws, g, k, x, r3, hg3, h, kq, kx⟩
    have n1 : H (s.heap.objs.size + 1) = none := I.hok.fresh (Nat.le_succ _)
    have n2 : H s.heap.objs.size = none := I.hok.fresh (Nat.le_refl _)
    have ne : s.heap.objs.size ≠ s.heap.objs.size + 1 := Nat.ne_of_lt (Nat.lt_succ_self _)
    have n3 : upd H s.heap.objs.size (.own (s.heap.objs.size + 1)) (s.heap.objs.size + 1) = none := by rw [upd_ne (Ne.symm ne)]; exact n1
    have h0 := h _ (hg3.free n1)
    obtain ⟨ds, dvs, dws, hd, hB, hdw, hlen, h2⟩ := hbd _ _ _ _ h0
    have hgA := hg3.new' (u := .own (s.heap.objs.size + 1)) n2
    have tA : TK H (upd H s.heap.objs.size (.own (s.heap.objs.size + 1))) := TK.new n2
    have hgB : GR E (gup g (s.heap.objs.size + 1) (.ins c [])) (upd (upd H s.heap.objs.size (.own (s.heap.objs.size + 1))) (s.heap.objs.size + 1) (.ins (E.ocl c) s.heap.objs.size [])) :=
      hgA.new (o := .ins c []) n3 ⟨hon, (fun f hf => nomatch hf), _, [], upd_same, rfl, .nil⟩
    have tB : TK (upd H s.heap.objs.size (.own (s.heap.objs.size + 1))) (upd (upd H s.heap.objs.size (.own (s.heap.objs.size + 1))) (s.heap.objs.size + 1) (.ins (E.ocl c) s.heap.objs.size [])) := TK.new n3
    have r4 : RVs E.K _ (.ref (s.heap.objs.size + 1) :: ws) (.ref (s.heap.objs.size + 1) :: vs') := .cons rv_ref ((r3.keep tA).keep tB)
    have r5 := r4.append (hdw _)
    have fN : FK g H (gup g (s.heap.objs.size + 1) (.ins c [])) (upd (upd H s.heap.objs.size (.own (s.heap.objs.size + 1))) (s.heap.objs.size + 1) (.ins (E.ocl c) s.heap.objs.size [])) := (FK.new' n2).trans (FK.new n3)
    refine run_makeA (sp := spF E (CF oc.init) ps.length) (E := WE w σ) M F hr hB hd (passAt ok.tk σ) I r ⟨?_, _, _, _, x, r5, hgB, h2, ?_, kx.at fN⟩
    · exact r5.length.trans hlen
    · rintro v g' u H' q1 q2 f3 ⟨rfl, q3⟩
      rw [RV] at q2
      exact ⟨q2, kq _ g' _ H' q1 rv_ref (fN.trans f3) q3⟩
  cases vs with
  | nil =>
    have e := hz rfl
    subst e
    refine ⟨fun pins s σ H Q I h => wpAny_Call_Name_kw (ld_glob I g1 hm (PySem.W.callWith_K0 I.kIn M.kp ?_) g2)⟩
    obtain ⟨s3, g, k, x, hs, hg, h, kq, kx⟩ := h
    exact run pins s σ H Q [] [] I .nil ⟨[], g, k, x, .nil, hg, h, kq, kx⟩
  | cons v vs =>
    refine ⟨fun pins s σ H Q I h => wpAny_Call_Name_kw (ld_glob I g1 hm ?_ g2)⟩
    obtain ⟨s3, g, k, x, hs, hg, h, kq, kx⟩ := h
    refine PySem.W.callWith_K (h₀ := X.base) I.ok.mod.kin M.kp (thn (ha.run p pins s σ H _ I ⟨s3, g, _, x, hs, hg, h, (fun ws g1 us H1 hg1 r f1 h1 => show (∃ ws g k x, RVs E.K H1 ws us ∧ GR E g H1 ∧ (∀ a, g a = none → CF oc.init (.ref a :: ws) (gup g a (.ins c [])) x fun v g2 => v = .non ∧ k (.ref a) g2) ∧ KQ E g H1 k Q ∧ KX E g H1 x (fun cls d H' => w cls d σ H')) from ⟨ws, g1, k, x, r, hg1, h1, kq.at f1, kx.at f1⟩), kx⟩) fun us s1 hu => ?_) (star_plain (hp v List.mem_cons_self)) (star_any fun u hu => hp u (List.mem_cons_of_mem v hu))
    obtain ⟨vs', H1, I1, r, q1⟩ := hu
    exact ⟨I1.kIn, run pins s1 σ H1 Q us vs' I1 r q1⟩
theorem l_fmt {te : TE3} {σ : L2.St} {H : Hp} {Q : VK} (h : liftE E w (fun x s g q => te x s g fun w g1 => fmtS w g1 q) σ H Q) : tFmt (liftE E w te) σ H Q := by
  obtain ⟨s, g, q, x, hs, hg, h, kq, kx⟩ := h
  refine ⟨s, g, _, x, hs, hg, h, fun a g1 v H1 hg1 ra f1 h1 => ?_, kx⟩
  change fmtS a g1 q at h1
  unfold fmtS at h1
  split at h1
  · rw [RV] at ra; subst ra
    exact .inl ⟨_, rfl, h1.1, kq _ g1 _ H1 hg1 rv_str f1 h1.2⟩
  · rw [RV] at ra; subst ra
    exact .inr ⟨_, rfl, h1.1, kq _ g1 _ H1 hg1 rv_str f1 h1.2⟩
  · exact h1.elim
theorem s_ccall (ok : CkOk ck X E w CF gl) (hh : ck.hot = false) {c : Nat} {oc : OC3} {q apos p : Pos} {v : Expr} {vs : List Expr} {ta : TA3} (hc : ck.ocs[c]? = some oc) (hgl : isGl ck oc.name = true) (hq : (apos.endLine == p.line) = true) (hl : (v :: vs).length < 20)
    (ha : PA X (v :: vs) (liftA E w ta)) (hp : ∀ u ∈ v :: vs, plainE u = true) :
    PE X (.Call (.Attribute (.Name oc.name q) "__init__" apos) (v :: vs) [] p) (liftE E w (fun x s g k => ta x s g fun ws g1 => CF oc.init ws g1 x k)) := by
  obtain ⟨fa, M, hm, D, R⟩ := (ok.ob hh).mkr c oc hc
  obtain ⟨fd, ps, lvl, F, hr, hbd⟩ := D.ex
  obtain ⟨g1, g2⟩ := ok.gl' hgl
  refine ⟨fun pins s σ H Q I h => ?_⟩
  obtain ⟨s3, g, k, x, hs, hg, h, kq, kx⟩ := h
  refine PySem.W.methodCall_KW (ld_glob I g1 hm ?_ g2) (ev_meth3 rfl (few3 hl hp) hq)
  refine PySem.W.method_cls I.kIn R.ga (PySem.W.cls_value I.kIn R.rd R.at_ rfl ?_)
  have I1 : Inv X pins σ H { s with toks := s.toks + 1 } := I.tok _
  refine PySem.W.callWith_K (first := []) (h₀ := X.base) I1.ok.mod.kin R.kp (thn (ha.run p pins _ σ H _ I1 ⟨s3, g, _, x, hs, hg, h, (fun ws g1 us H1 hg1 r f1 h1 => show (∃ ws g1, RVs E.K H1 ws us ∧ GR E g1 H1 ∧ FK g H g1 H1 ∧ CF oc.init ws g1 x k) from ⟨ws, g1, r, hg1, f1, h1⟩), kx⟩) fun us s1 hu => ?_) (star_plain (hp v List.mem_cons_self)) (star_any fun u hu => hp u (List.mem_cons_of_mem v hu))
  obtain ⟨vs', H1, I2, r, ws, gg, r3, hg3, f3, h3⟩ := hu
  refine ⟨I2.kIn, ?_⟩
  obtain ⟨ds, dvs, dws, hd, hB, hdw, hlen, h4⟩ := hbd _ _ _ _ h3
  have r5 := r3.append (hdw H1)
  refine run_fnSD (sp := spF E (CF oc.init) ps.length) (E := WE w) F (hr.mono (by omega)) hB hd (passAt ok.tk σ) I2 r ⟨?_, _, gg, k, x, r5, hg3, h4, kq.at f3, kx.at f3⟩
  exact r5.length.trans hlen
theorem s_isc (ok : CkOk ck X E w CF gl) {y : Str} {row : List Bool} {l : Expr} {q q' p : Pos} {ta : TE3} (h1 : isGl ck "isinstance" = true) (h2 : isGl ck y = true) (h3 : (y, row) ∈ ck.ics) (hp : plainE l = true) (ha : PE X l (liftE E w ta)) :
    PE X (.Call (.Name "isinstance" q) [l, .Name y q'] [] p) (liftE E w (fun x s g k => ta x s g fun a g1 => iscS row a g1 k)) := by
  obtain ⟨D, hD, facts⟩ := (ok.ics _ h3).ex
  obtain ⟨g1, g2⟩ := ok.gl' h1
  obtain ⟨g3, g4⟩ := ok.gl' h2
  have hA : PA X [l, .Name y q'] (tCons (liftE E w ta) (tCons (tC (.ref D)) tNil)) := pa_cons ha (pa_cons (pe_glob g3 hD rfl g4) pa_nil rfl) (star_plain hp)
  refine peI (pe_callB call_isi g1 (ok.blt "isinstance" (by decide +kernel)) (by decide +kernel) hA (by decide +kernel) g2 (star_plain hp) (by rfl)) fun σ H Q h => ?_
  obtain ⟨s, g, k, x, hs, hg, h, kq, kx⟩ := h
  refine ⟨s, g, _, x, hs, hg, h, fun a g1 v H1 hg1 ra f1 h1 => ?_, kx⟩
  change iscS row a g1 k at h1
  unfold iscS at h1
  split at h1
  · rename_i pa
    rw [RV] at ra; subst ra
    split at h1
    · rename_i c fs eg
      obtain ⟨b, eb, h1⟩ := h1
      obtain ⟨o1, o2, dx, lv, e, q1, q2⟩ := hg1 _ _ eg
      obtain ⟨k1, k2, k3, k4, k5⟩ := facts c b eb
      refine ⟨_, _, _, _, b, rfl, ?_, .base (.ins e (ok.cl.cls c o1) k2 k3 k4 k5), k1, kq _ g1 _ H1 hg1 rv_bl f1 h1⟩
      exact .own D
    · exact h1.elim
  · exact h1.elim
end
end L3
set_option maxRecDepth 100000
set_option maxHeartbeats 8000000
namespace L3
open PySem PySem.Spec L2
section
variable {X : Cx} {E : Env3} {w : WX} {CF : CF3} {gl : Gs} {ck : Ck}
theorem ty_rel {g : G} {H : Hp} {a : W} {v : V} {n : String} (hg : GR E g H) (r : RV E.K H a v) (h : tyNm g a = some n) : TyX E.K H v (.type n) := by
  cases a with
  | non => rw [RV] at r; subst r; cases h; exact .base .non
  | bl b => rw [RV] at r; subst r; cases h; exact .base (.bl b)
  | int b => rw [RV] at r; subst r; cases h; exact .base (.int b)
  | str b => rw [RV] at r; subst r; cases h; exact .base (.str b)
  | tup xs => obtain ⟨p, ys, rfl, ht, hr⟩ := rv_tup_inv r; cases h; exact .base (.tup ht)
  | scr xs =>
    obtain ⟨p, ys, rfl, ht, hr⟩ := rv_scr_inv r
    cases h
    rcases ht with ⟨o, ht⟩ | (ht | ⟨o, ht⟩) | ⟨o, its, m, e1, e2, _⟩
    · exact .base (.frz ht)
    · cases ht
    · cases ht
    · exact .kList e1 e2
  | lv xs =>
    obtain ⟨p, ys, rfl, ht, hr⟩ := rv_lv_inv r
    cases h
    rcases ht with ⟨o, ht⟩ | (ht | ⟨o, ht⟩) | ⟨o, its, m, e1, e2, _⟩
    · exact .base (.frz ht)
    · cases ht
    · cases ht
    · exact .kList e1 e2
  | ref p =>
    rw [RV] at r; subst r
    simp only [tyNm] at h
    split at h
    · rename_i xs e; cases h; obtain ⟨ys, f1, _⟩ := hg _ _ e; exact .base (.lst f1)
    · rename_i lk xs e
      cases h
      obtain ⟨l, hd, _⟩ := hg _ _ e
      cases lk with
      | false => exact .base (.dK hd)
      | true => obtain ⟨od, hd⟩ := hd; exact .fDict hd
    · rename_i xs e
      cases h
      obtain ⟨l, hd, _⟩ := hg _ _ e
      exact .base (.dT hd)
    · cases h
  | exc p c d => cases h
theorem boot_ty : ∀ T ∈ tySome, bootBuiltins (Str.ofString T) = some (.type T) ∧ Str.ofString T ∈ blts ∧ Str.ofString T ≠ "__name__" := by decide +kernel
theorem s_isi (ok : CkOk ck X E w CF gl) {T : String} {l : Expr} {q q' p : Pos} {ta : TE3} (g1 : isGl ck "isinstance" = true) (g2 : isGl ck (Str.ofString T) = true) (hT : T ∈ tySome) (hp : plainE l = true) (h : PE X l (liftE E w ta)) :
    PE X (.Call (.Name "isinstance" q) [l, .Name (Str.ofString T) q'] [] p) (liftE E w (e1 (isiS T) ta)) := by
  obtain ⟨b1, b2, b3⟩ := boot_ty T hT
  have hl := ok.gl' g1
  have ht := ok.gl' g2
  refine peI (pe_callB call_isi hl.1 (ok.blt _ (by decide +kernel)) (by decide +kernel) (pa_cons h (pa_cons (pe_bltn (v := .ty T) ht.1 (ok.blt _ b2) b1 rfl b3 ht.2) pa_nil) (star_plain hp)) (by decide +kernel) hl.2 (star_plain hp) rfl) fun σ H Q q => ?_
  obtain ⟨s, g, k, x, hs, hg, h, kq, kx⟩ := q
  refine ⟨s, g, _, x, hs, hg, h, fun a g1 v H1 hg1 ra f1 h1 => ?_, kx⟩
  obtain ⟨n, e1, h1⟩ := h1
  exact ⟨v, .ty T, _, _, isiB n T, rfl, .ty T, by rw [ok.hK]; exact ty_rel hg1 ra e1, kit_ty (kitB_all n (tyNm_in e1) T hT), kq _ g1 _ H1 hg1 rv_bl f1 h1⟩
theorem inst_at {pins : List (Addr × Obj)} {σ : L2.St} {H : Hp} {s : Shared} (I : Inv X pins σ H s) {a D : Addr} {oe : Obj} {d : Option Addr} (hm : (a, oe) ∈ X.pn) (hz : Zc (.ref D) d oe) (hf : ∃ vs, oe.data = .fields vs) (hd : ∀ dd, d = some dd → ∃ fs, H dd = some (.xd fs)) :
    ∃ od, PySem.W.InstAt s.heap a oe D od := by
  have hget := (I.pin (a, oe) (List.mem_append.mpr (.inl hm))).1
  obtain ⟨vs, hv⟩ := hf
  obtain ⟨oc, od, oda, osl⟩ := oe
  obtain ⟨z1, z2⟩ := hz
  dsimp only at z1 z2 hv
  subst z1 z2 hv
  cases od with
  | none => exact ⟨none, hget, rfl, rfl, trivial⟩
  | some dd =>
    obtain ⟨fs, q⟩ := hd dd rfl
    obtain ⟨mA, hns, _⟩ := (show ObjOk X.prog X.w H s.heap dd (.xd fs) from I.hok dd _ q)
    obtain ⟨o, ho, _⟩ := lookIn_ns hns
    exact ⟨some o, hget, rfl, rfl, ho⟩
def rIsX (K : PySem.W.Frag) (D a : Addr) (d : Option Addr) : List V → Hp → VK → Prop := fun xs H Q => ∃ (c : V) (cv : Value) (b : Bool), xs = [.ref a, c] ∧ (∀ u, RelV c u → u = cv) ∧ (∀ dd, d = some dd → ∃ fs, H dd = some (.xd fs)) ∧ PySem.W.kitOne K (.ref D) cv = some b ∧ Q (.bl b) H
theorem call_isX {a D : Addr} {oe : Obj} {d : Option Addr} (C : ExcC X.K D) (hm : (a, oe) ∈ X.pn) (hz : Zc (.ref D) d oe) (hf : ∃ vs, oe.data = .fields vs) : CallR X (.builtin "isinstance") (rIsX X.K D a d) := by
  intro pins s σ H xs us Q I r h
  obtain ⟨c, cv, b, rfl, hcv, hd, e, q⟩ := h
  cases r with
  | cons r1 r2 =>
    cases r2 with
    | cons r3 r4 =>
      cases r4
      cases r1
      have ec := hcv _ r3
      subst ec
      obtain ⟨od, J⟩ := inst_at I hm hz hf hd
      have hc : (PySem.W.clsIn X.K D).isSome = true := by
        have := C.hd
        unfold PySem.W.hasDictIn at this
        cases z : PySem.W.clsIn X.K D with
        | none => rw [z] at this; simp at this
        | some _ => rfl
      exact PySem.W.kia_one (PySem.W.kitx_exc hc C.hg C.hk C.hs C.ha C.hn C.ht C.hm) I.kIn J e (fun z => nomatch z) fun tk => ⟨.bl b, H, I.kept (t' := tk) fun _ _ z => z, rfl, q⟩
theorem s_isx (ok : CkOk ck X E w CF gl) {i : Nat} {n y : Str} {row : List Bool} {q q1 q' p : Pos} (g1 : isGl ck "isinstance" = true) (g2 : isGl ck y = true) (hv : isVar ck i n = true) (hc : (y, row) ∈ ck.cs) (hh : ck.hot = true) :
    PE X (.Call (.Name "isinstance" q) [.Name n q1, .Name y q'] [] p) (liftE E w (eIsx gl i row)) := by
  obtain ⟨a, oe, c, d, hm, es, hz, hf, hx⟩ := (ok.su hh).ex
  obtain ⟨v, cv, rv, uv, mv, facts⟩ := (ok.cs _ hc).ex
  have hl := ok.gl' g1
  have ht := ok.gl' g2
  obtain ⟨v1, v2, v3, v4⟩ := ok.var hv
  have pv : PE X (.Name n q1) (tVar i) := pe_var v1 v2 v3 v4
  have pc : PE X (.Name y q') (tC v) := by
    rcases mv with m | ⟨m, b, nn⟩
    · exact pe_glob ht.1 m rv ht.2
    · exact pe_bltn ht.1 m b rv nn ht.2
  refine ⟨fun pins st σ H Q I q => ?_⟩
  obtain ⟨s, g, k, x, hs, hg, ⟨a2, c2, d2, b2, e1, e2, ed, e3, h⟩, kq, kx⟩ := q
  rw [es] at e1
  cases e1
  obtain ⟨f1, _, f3, _⟩ := facts _ _ e3
  obtain ⟨u, hu, ru⟩ := hs.get e2
  rw [RV] at ru
  subst ru
  refine (pe_callB (call_isX f3 hm hz hf) hl.1 (ok.blt _ (by decide +kernel)) (by decide +kernel) (pa_cons pv (pa_cons pc pa_nil)) (by decide +kernel) hl.2).run pins st σ H Q I ?_
  exact ⟨_, hu, _, _, b2, rfl, uv, (fun dd e => by obtain ⟨fs, z⟩ := ed dd e; obtain ⟨l, z1, _⟩ := hg _ _ z; exact ⟨l, z1⟩), f1, kq _ g _ H hg rv_bl FK.refl h⟩
def rIsXs (K : PySem.W.Frag) (D a : Addr) (d : Option Addr) : List V → Hp → VK → Prop := fun xs H Q => ∃ (tp : Addr) (cs : List V) (us : List Value) (b : Bool), xs = [.ref a, .ref tp] ∧ H tp = some (.tup cs) ∧ (∀ ws, Vals cs ws → ws = us) ∧ (∀ dd, d = some dd → ∃ fs, H dd = some (.xd fs)) ∧ PySem.W.kitAny K (.ref D) us = some b ∧ Q (.bl b) H
theorem call_isXs {a D : Addr} {oe : Obj} {d : Option Addr} (C : ExcC X.K D) (hm : (a, oe) ∈ X.pn) (hz : Zc (.ref D) d oe) (hf : ∃ vs, oe.data = .fields vs) : CallR X (.builtin "isinstance") (rIsXs X.K D a d) := by
  intro pins s σ H xs us Q I r h
  obtain ⟨tp, cs, ws, b, rfl, hT, hw, hd, e, q⟩ := h
  cases r with
  | cons r1 r2 =>
    cases r2 with
    | cons r3 r4 =>
      cases r4
      cases r1
      cases r3
      obtain ⟨od, J⟩ := inst_at I hm hz hf hd
      have hc : (PySem.W.clsIn X.K D).isSome = true := by
        have := C.hd
        unfold PySem.W.hasDictIn at this
        cases z : PySem.W.clsIn X.K D with
        | none => rw [z] at this; simp at this
        | some _ => rfl
      obtain ⟨_, its, rv, o, h1, h2, n, h3⟩ := (show ObjOk X.prog X.w H s.heap tp (.tup cs) from I.hok tp _ hT)
      have e3 := hw _ rv
      subst e3
      obtain ⟨oc, od', dt, sl⟩ := o
      simp only at h2 h3
      subst h2 h3
      exact PySem.W.kia_tup (PySem.W.kitx_exc hc C.hg C.hk C.hs C.ha C.hn C.ht C.hm) I.kIn J h1 e (fun z => nomatch z) fun tk => ⟨.bl b, H, I.kept (t' := tk) fun _ _ z => z, rfl, q⟩
theorem pa_cls (ok : CkOk ck X E w CF gl) : ∀ (ys : List (Str × List Bool)) (es : List Expr), clsNs ck ys es = true → ∃ (vs : List V) (us : List Value), PA X es (fun _ H Q => Q vs H) ∧ vs.length = ys.length ∧ (∀ ws, Vals vs ws → ws = us) ∧ (∀ c b, anyR ys c = some b → PySem.W.kitAny X.K (.ref (E.cls c)) us = some b) ∧ (ys ≠ [] → ∀ c b, anyR ys c = some b → ExcC X.K (E.cls c))
  | [], [], _ => ⟨[], [], pa_nil, rfl, fun ws r => by cases r; rfl, fun c b h => by cases h; rfl, fun h => absurd rfl h⟩
  | [], _ :: _, h => by cases h
  | _ :: _, [], h => by cases h
  | (y, row) :: ys, e :: es, h => by
    cases e with
    | Name t q =>
      obtain ⟨h1, h⟩ := bool_and h
      obtain ⟨h2, h⟩ := bool_and h
      obtain ⟨h3, h4⟩ := bool_and h
      have h1 := of_decide_eq_true h1
      subst h1
      obtain ⟨vs, us, pa, hl, hu, hk, _⟩ := pa_cls ok ys es h4
      obtain ⟨v, cv, rv, uv, mv, facts⟩ := (ok.cs _ (of_decide_eq_true h3)).ex
      have ht := ok.gl' h2
      have pc : PE X (.Name t q) (tC v) := by
        rcases mv with m | ⟨m, b, nn⟩
        · exact pe_glob ht.1 m rv ht.2
        · exact pe_bltn ht.1 m b rv nn ht.2
      refine ⟨v :: vs, cv :: us, pa_cons pc pa, by simp [hl], fun ws r => ?_, fun c b e => ?_, fun _ c b e => ?_⟩
      · cases r with
        | cons r1 r2 => rw [uv _ r1, hu _ r2]
      · unfold anyR at e
        split at e
        · cases e
        · rename_i e1
          cases e
          exact kitAny_cons (facts _ _ e1).1 (fun z => nomatch z) fun _ => rfl
        · rename_i e1
          exact kitAny_cons (facts _ _ e1).1 (fun _ => hk _ _ e) fun z => nomatch z
      · unfold anyR at e
        split at e
        · cases e
        · rename_i e1
          exact (facts _ _ e1).2.2.1
        · rename_i e1
          exact (facts _ _ e1).2.2.1
    | _ => cases h
theorem s_isxs (ok : CkOk ck X E w CF gl) {i : Nat} {n : Str} {ys : List (Str × List Bool)} {es : List Expr} {k : Nat} {q q1 q2 p : Pos} (g1 : isGl ck "isinstance" = true) (hv : isVar ck i n = true) (hc : clsNs ck ys es = true) (hy : 0 < ys.length ∧ ys.length < 100) (hh : ck.hot = true) :
    PE X (.Call (.Name "isinstance" q) [.Name n q1, .Tuple es k q2] [] p) (liftE E w (eIsxs gl i ys)) := by
  obtain ⟨a, oe, c, d, hm, es', hz, hf, hx⟩ := (ok.su hh).ex
  obtain ⟨vs, us, pa, hl, hu, hk, hX⟩ := pa_cls ok ys es hc
  have hl' := ok.gl' g1
  obtain ⟨v1, v2, v3, v4⟩ := ok.var hv
  have pv : PE X (.Name n q1) (tVar i) := pe_var v1 v2 v3 v4
  refine ⟨fun pins st σ H Q I q => ?_⟩
  obtain ⟨s, g, k, x, hs, hg, ⟨a2, c2, d2, b2, e1, e2, ed, e3, h⟩, kq, kx⟩ := q
  rw [es'] at e1
  cases e1
  have hne : ys ≠ [] := fun z => by subst z; simp at hy
  obtain ⟨u, hu2, ru⟩ := hs.get e2
  rw [RV] at ru
  subst ru
  refine (pe_callB (call_isXs (hX hne _ _ e3) hm hz hf) hl'.1 (ok.blt _ (by decide +kernel)) (by decide +kernel) (pa_cons pv (pa_cons (pe_tup pa) pa_nil)) (by decide +kernel) hl'.2).run pins st σ H Q I ?_
  refine ⟨_, hu2, by rw [hl]; simp only [sizeLine]; omega, fun p np => ⟨p, vs, us, b2, rfl, upd_same, hu, (fun dd e => ?_), hk _ _ e3, kq _ g _ _ (hg.new' np) rv_bl (FK.new' np) h⟩⟩
  obtain ⟨fs, z⟩ := ed dd e
  obtain ⟨l, z1, _⟩ := hg _ _ z
  exact ⟨l, by rw [upd_ne (ne_of_none z1 np)]; exact z1⟩
theorem rvs_lookup {K : PySem.W.Frag} {H : Hp} {f : Str} {w : W} : ∀ {fs : List (Str × W)} {l : List (Str × V)}, fs.map (·.1) = l.map (·.1) → RVs K H (fs.map (·.2)) (l.map (·.2)) → fs.lookup f = some w → ∃ v, l.lookup f = some v ∧ RV K H w v
  | [], _, _, _, h => by cases h
  | (y, u) :: fs, l, e1, e2, h => by
    cases l with
    | nil => cases e1
    | cons p l =>
      obtain ⟨z, v⟩ := p
      injection e1 with k1 k2
      obtain ⟨v', r', e3, e4, e5⟩ := e2.cons_inv
      injection e3 with k3 k4
      subst k3 k4
      have k1 : y = z := k1
      subst k1
      rw [List.lookup_cons] at h ⊢
      cases c : (f == y) with
      | true => rw [c] at h; cases h; exact ⟨_, rfl, e4⟩
      | false => rw [c] at h; exact rvs_lookup k2 e5 h
theorem s_xattr (ok : CkOk ck X E w CF gl) {i : Nat} {n f : Str} {q p : Pos} (hv : isVar ck i n = true) (hfl : f ∈ ck.xfl) (hh : ck.hot = true) :
    PE X (.Attribute (.Name n q) f p) (liftE E w (eXat gl i f)) := by
  obtain ⟨a, oe, c, d, hm, es, hz, hf, hx⟩ := (ok.su hh).ex
  obtain ⟨v1, v2, v3, v4⟩ := ok.var hv
  have pv : PE X (.Name n q) (tVar i) := pe_var v1 v2 v3 v4
  refine ⟨fun pins st σ H Q I h => ?_⟩
  obtain ⟨s, g, k, x, hs, hg, ⟨a2, c2, dd, fs, wv, e1, e2, ed, el, h⟩, kq, kx⟩ := h
  rw [es] at e1
  cases e1
  obtain ⟨u, hu, ru⟩ := hs.get e2
  rw [RV] at ru
  subst ru
  obtain ⟨l, hl, k1, k2⟩ := hg _ _ ed
  obtain ⟨v, el2, rv⟩ := rvs_lookup k1 k2 el
  refine attr_of rfl (thn (pv.run pins st σ H (fun y H1 => y = .ref a ∧ H1 = H) I ⟨_, hu, rfl, rfl⟩) fun u1 s1 ⟨y, H1, I1, ry, ey, eH⟩ => ?_)
  subst ey eH
  obtain rfl : u1 = Value.ref a := ry
  obtain ⟨od, J⟩ := inst_at I1 hm hz hf fun d' e => by cases e; exact ⟨l, hl⟩
  obtain ⟨mA, hns, hr⟩ := (show ObjOk X.prog X.w H1 s1.heap dd (.xd l) from I1.hok dd _ hl)
  obtain ⟨od2, ho2, hlk⟩ := lookIn_ns hns
  have eo : od = some od2 := by
    have := J.dict
    rw [hz.2] at this
    cases od with
    | none => exact this.elim
    | some o => rw [show s1.heap.get? dd = some o from this] at ho2; exact ho2
  subst eo
  obtain ⟨u2, hu2, ru2⟩ := RelO.some_of (v := v) (o := mA f) (by rw [← el2]; exact hr f)
  exact HandSPX.exc_get I1.kIn J hx.xf.ga hx.xf.gg hx.xf.exC (PySem.W.findObj_own hx.xf.hdC (hx.no f (by rw [ok.xfl]; exact hfl)) rfl (by rw [hlk, hu2])) (handed_of ru2) ⟨v, H1, I1.tok _, ru2, kq _ g _ H1 hg rv FK.refl h⟩
theorem l_hcall {c : List W → G → XK3 → VK3 → Prop} {ta : TA3} {σ : L2.St} {H : Hp} {Q : VK} {a : Addr} {cn : Nat} {d : Option Addr} (es : gl.su = some (a, cn, d)) (hw : w = w0)
    (h : liftE E w (fun x s g k => ∃ a2 c2 d2, gl.su = some (a2, c2, d2) ∧ ta x s g fun ws g1 => c (.exc a2 c2 d2 :: ws) g1 x k) σ H Q) :
    liftA E w ta σ H (fun vs H1 => ∃ ws g q x, RVs E.K H1 ws vs ∧ GR E g H1 ∧ c (.exc a cn d :: ws) g x q ∧ KQ E g H1 q Q ∧ KX E g H1 x (fun _ _ _ => False)) := by
  obtain ⟨s, g, q, x, hs, hg, ⟨a2, c2, d2, e2, h⟩, kq, kx⟩ := h
  rw [es] at e2
  cases e2
  exact ⟨s, g, _, x, hs, hg, h, fun ws g1 vs H1 hg1 r f1 h1 => ⟨ws, g1, q, x, r, hg1, h1, kq.at f1, by have := kx.at f1; rw [hw] at this; exact this⟩, kx⟩
theorem s_hcall {c : List W → G → XK3 → VK3 → Prop} {y : Str} {q p : Pos} {v : Expr} {vs : List Expr} {ta : TA3} (ok : CkOk ck X E w CF gl) (hh : ck.hot = true) (hg : isGl ck y = true) (hc : HCallOk X E c y)
    (ha : PA X (v :: vs) (liftA E w ta)) (hp : ∀ u ∈ v :: vs, plainE u = true) :
    PE X (.Call (.Name y q) (v :: vs) [] p) (liftE E w (fun x s g k => ∃ a2 c2 d2, gl.su = some (a2, c2, d2) ∧ ta x s g fun ws g1 => c (.exc a2 c2 d2 :: ws) g1 x k)) := by
  obtain ⟨f, hm, hk, D⟩ := hc.ex
  obtain ⟨fd, ps, k, F0, hr, hb, hlen⟩ := D.ex
  obtain ⟨g1, g2⟩ := ok.gl' hg
  obtain ⟨a, oe, cn, d, hpn, es, hz, hf, hx⟩ := (ok.su hh).ex
  have F := F0 a oe cn d hz hf hx
  refine ⟨fun pins s σ H Q I h => wpAny_Call_Name_kw (ld_glob I g1 hm ?_ g2)⟩
  have h' := l_hcall (c := c) es (ok.hw hh) h
  refine PySem.W.callWith_K (h₀ := X.base) I.ok.mod.kin hk (thn (ha.run p pins s σ H _ I h') fun us s1 hu => ?_) (star_plain (hp v List.mem_cons_self)) (star_any fun u hu => hp u (List.mem_cons_of_mem v hu))
  obtain ⟨vs', H1, I1, r, ws, g3, q3, x3, r3, hg3, h3, kq, kx⟩ := hu
  refine ⟨I1.kIn, ?_⟩
  have hsp : spF E (fun ws g x q => c (.exc a cn d :: ws) g x q) ps.length vs' H1 Q (fun _ _ _ => False) := by
    refine ⟨?_, ws, g3, q3, x3, r3, hg3, h3, kq, kx⟩
    rw [r3.length]; exact hlen _ _ _ _ _ _ _ h3
  have hl : us.length = ps.length := by rw [← r.length]; exact F.len _ _ _ _ hsp
  have b := hb s1 us I1.kIn (by rw [List.append_nil]; exact hl)
  rw [List.append_nil] at b
  have k1 := I1.pin (a, oe) (List.mem_append_left _ hpn)
  have hpin : L2H.PinOk X.stack H1 s1 (a, oe) := ⟨k1.1, k1.2.1, fun hm => (List.mem_cons.mp (I1.stkSub a hm)).elim k1.2.2.1 k1.2.2.2.1, k1.2.2.2.2⟩
  refine wpAny_call (codeAny_mono (F.run X.A X.stack s1 H1 ⟨us, []⟩ us vs' Q hr hpin I1.env0 b r hsp) fun z s2 hq => ?_)
  cases z with
  | error e =>
    obtain ⟨_, _, _, _, _, _, _, _, _, _, _, _, z⟩ := (show L2.CX X.prog X.w X.stack H1 s1 (fun _ _ _ => False) e s2 from hq)
    exact z.elim
  | ok fl =>
    cases fl with
    | ret u => exact I1.after hq
    | next => exact False.elim hq
    | brk => exact False.elim hq
    | cont => exact False.elim hq
theorem l_chain {r r' : W → W → G → VK3 → Prop} {ta tb tc : TE3} {σ : L2.St} {H : Hp} {Q : VK}
    (h : liftE E w (fun x s g q => ta x s g fun u g1 => tb x s g1 fun v g2 => r u v g2 fun z g3 => ∃ k, z = .bl k ∧ (if k = true then tc x s g3 fun y g4 => r' v y g4 q else q (.bl false) g3)) σ H Q) :
    tChain (lift2 E r) (lift2 E r') (liftE E w ta) (liftE E w tb) (liftE E w tc) σ H Q := by
  obtain ⟨s, g, q, x, hs, hg, h, kq, kx⟩ := h
  refine ⟨s, g, _, x, hs, hg, h, fun a g1 v H1 hg1 ra f1 h1 => ?_, kx⟩
  have t1 := f1.tk hg
  refine ⟨s, g1, _, x, hs.keep t1, hg1, h1, fun b g2 u H2 hg2 rb f2 h2 => ?_, kx.at f1⟩
  have t2 := f2.tk hg1
  refine ⟨a, b, g2, _, ra.keep t2, rb, hg2, h2, fun z g3 v3 H3 hg3 r3 f3 h3 => ?_⟩
  obtain ⟨k, rfl, h3⟩ := h3
  rw [RV] at r3
  refine ⟨k, r3, ?_⟩
  have f13 := (f1.trans f2).trans f3
  have t3 := f3.tk hg2
  by_cases hk : k = true
  · rw [if_pos hk] at h3 ⊢
    refine ⟨s, g3, _, x, ((hs.keep t1).keep t2).keep t3, hg3, h3, fun y g4 v4 H4 hg4 r4 f4 h4 => ?_, kx.at f13⟩
    exact ⟨b, y, g4, q, (rb.keep t3).keep (f4.tk hg3), r4, hg4, h4, kq.at (f13.trans f4)⟩
  · rw [if_neg hk] at h3 ⊢
    exact kq _ g3 _ H3 hg3 rv_bl f13 h3
theorem l_chain3 {r r' r'' : W → W → G → VK3 → Prop} {ta tb tc td : TE3} {σ : L2.St} {H : Hp} {Q : VK}
    (h : liftE E w (fun x s g q => ta x s g fun u g1 => tb x s g1 fun v g2 => r u v g2 fun z g3 => ∃ k, z = .bl k ∧ (if k = true then tc x s g3 fun y g4 => r' v y g4 fun z2 g5 => ∃ k2, z2 = .bl k2 ∧
      (if k2 = true then td x s g5 fun y2 g6 => r'' y y2 g6 q else q (.bl false) g5) else q (.bl false) g3)) σ H Q) :
    tChain3 (lift2 E r) (lift2 E r') (lift2 E r'') (liftE E w ta) (liftE E w tb) (liftE E w tc) (liftE E w td) σ H Q := by
  obtain ⟨s, g, q, x, hs, hg, h, kq, kx⟩ := h
  refine ⟨s, g, _, x, hs, hg, h, fun a g1 v H1 hg1 ra f1 h1 => ?_, kx⟩
  have t1 := f1.tk hg
  refine ⟨s, g1, _, x, hs.keep t1, hg1, h1, fun b g2 u H2 hg2 rb f2 h2 => ?_, kx.at f1⟩
  have t2 := f2.tk hg1
  refine ⟨a, b, g2, _, ra.keep t2, rb, hg2, h2, fun z g3 v3 H3 hg3 r3 f3 h3 => ?_⟩
  obtain ⟨k, rfl, h3⟩ := h3
  rw [RV] at r3
  refine ⟨k, r3, ?_⟩
  have f13 := (f1.trans f2).trans f3
  have t3 := f3.tk hg2
  by_cases hk : k = true
  · rw [if_pos hk] at h3 ⊢
    have hs3 := ((hs.keep t1).keep t2).keep t3
    refine ⟨s, g3, _, x, hs3, hg3, h3, fun y g4 v4 H4 hg4 r4 f4 h4 => ?_, kx.at f13⟩
    have t4 := f4.tk hg3
    refine ⟨b, y, g4, _, (rb.keep t3).keep t4, r4, hg4, h4, fun z2 g5 v5 H5 hg5 r5 f5 h5 => ?_⟩
    obtain ⟨k2, rfl, h5⟩ := h5
    rw [RV] at r5
    refine ⟨k2, r5, ?_⟩
    have f15 := (f13.trans f4).trans f5
    have t5 := f5.tk hg4
    by_cases hk2 : k2 = true
    · rw [if_pos hk2] at h5 ⊢
      refine ⟨s, g5, _, x, (hs3.keep t4).keep t5, hg5, h5, fun y2 g6 v6 H6 hg6 r6 f6 h6 => ?_, kx.at f15⟩
      exact ⟨y, y2, g6, q, (r4.keep t5).keep (f6.tk hg5), r6, hg6, h6, kq.at (f15.trans f6)⟩
    · rw [if_neg hk2] at h5 ⊢
      exact kq _ g5 _ H5 hg5 rv_bl f15 h5
  · rw [if_neg hk] at h3 ⊢
    exact kq _ g3 _ H3 hg3 rv_bl f13 h3
theorem l_not {ta : TE3} {σ : L2.St} {H : Hp} {Q : VK} (h : liftE E w (fun x s g q => ta x s g fun u g1 => ∃ b, u = .bl b ∧ q (.bl (!b)) g1) σ H Q) : tNotV (liftE E w ta) σ H Q := by
  obtain ⟨s, g, q, x, hs, hg, h, kq, kx⟩ := h
  refine ⟨s, g, _, x, hs, hg, h, fun a g1 v H1 hg1 ra f1 h1 => ?_, kx⟩
  obtain ⟨b, rfl, h1⟩ := h1
  rw [RV] at ra
  exact ⟨b, ra, kq _ g1 _ H1 hg1 rv_bl f1 h1⟩
theorem l_notT {ta : TE3} {σ : L2.St} {H : Hp} {Q : Bool → Hp → Prop} (h : liftT E w (bT (fun x s g q => ta x s g fun u g1 => ∃ b, u = .bl b ∧ q (.bl (!b)) g1)) σ H Q) : tNot (liftT E w (bT ta)) σ H Q := by
  obtain ⟨s, g, q, x, hs, hg, h, kq, kx⟩ := h
  refine ⟨s, g, _, x, hs, hg, h, fun b g1 H1 hg1 f1 h1 => ?_, kx⟩
  obtain ⟨c, e, h1⟩ := h1
  cases e
  exact kq _ g1 H1 hg1 f1 h1
end
end L3
set_option maxRecDepth 100000
set_option maxHeartbeats 16000000
namespace L3
open PySem PySem.Spec L2
def andE (ta tb : TE3) : TE3 := fun x s g q => ta x s g fun u g1 => ∃ b, u = .bl b ∧ if b = true then tb x s g1 q else q (.bl false) g1
def orE (ta tb : TE3) : TE3 := fun x s g q => ta x s g fun u g1 => ∃ b, u = .bl b ∧ if b = true then q (.bl true) g1 else tb x s g1 q
section
variable {X : Cx} {E : Env3} {w : WX} {CF : CF3} {gl : Gs} {ck : Ck}
theorem l_andV {ta tb : TE3} {σ : L2.St} {H : Hp} {Q : VK} (h : liftE E w (andE ta tb) σ H Q) : tAndV (liftE E w ta) (liftE E w tb) σ H Q := by
  obtain ⟨s, g, q, x, hs, hg, h, kq, kx⟩ := h
  refine ⟨s, g, _, x, hs, hg, h, fun a g1 v H1 hg1 ra f1 h1 => ?_, kx⟩
  obtain ⟨b, rfl, h1⟩ := h1
  rw [RV] at ra
  refine ⟨b, ra, ?_⟩
  by_cases hb : b = true
  · rw [if_pos hb] at h1 ⊢
    exact ⟨s, g1, q, x, hs.keep (f1.tk hg), hg1, h1, kq.at f1, kx.at f1⟩
  · rw [if_neg hb] at h1 ⊢
    exact kq _ g1 _ H1 hg1 rv_bl f1 h1
theorem l_orV {ta tb : TE3} {σ : L2.St} {H : Hp} {Q : VK} (h : liftE E w (orE ta tb) σ H Q) : tOrV (liftE E w ta) (liftE E w tb) σ H Q := by
  obtain ⟨s, g, q, x, hs, hg, h, kq, kx⟩ := h
  refine ⟨s, g, _, x, hs, hg, h, fun a g1 v H1 hg1 ra f1 h1 => ?_, kx⟩
  obtain ⟨b, rfl, h1⟩ := h1
  rw [RV] at ra
  refine ⟨b, ra, ?_⟩
  by_cases hb : b = true
  · rw [if_pos hb] at h1 ⊢
    exact kq _ g1 _ H1 hg1 rv_bl f1 h1
  · rw [if_neg hb] at h1 ⊢
    exact ⟨s, g1, q, x, hs.keep (f1.tk hg), hg1, h1, kq.at f1, kx.at f1⟩
theorem l_andT {ta tb : TE3} {σ : L2.St} {H : Hp} {Q : Bool → Hp → Prop} (h : liftT E w (bT (andE ta tb)) σ H Q) : tAnd (liftT E w (bT ta)) (liftT E w (bT tb)) σ H Q := by
  obtain ⟨s, g, q, x, hs, hg, h, kq, kx⟩ := h
  refine ⟨s, g, _, x, hs, hg, h, fun b g1 H1 hg1 f1 h1 => ?_, kx⟩
  show if b = true then _ else _
  replace h1 : if b = true then _ else _ := h1
  by_cases hb : b = true
  · rw [if_pos hb] at h1 ⊢
    exact ⟨s, g1, q, x, hs.keep (f1.tk hg), hg1, h1, kq.at f1, kx.at f1⟩
  · rw [if_neg hb] at h1 ⊢
    obtain ⟨c, e, h1⟩ := h1
    cases e
    exact kq _ g1 H1 hg1 f1 h1
theorem l_orT {ta tb : TE3} {σ : L2.St} {H : Hp} {Q : Bool → Hp → Prop} (h : liftT E w (bT (orE ta tb)) σ H Q) : tOr (liftT E w (bT ta)) (liftT E w (bT tb)) σ H Q := by
  obtain ⟨s, g, q, x, hs, hg, h, kq, kx⟩ := h
  refine ⟨s, g, _, x, hs, hg, h, fun b g1 H1 hg1 f1 h1 => ?_, kx⟩
  show if b = true then _ else _
  replace h1 : if b = true then _ else _ := h1
  by_cases hb : b = true
  · rw [if_pos hb] at h1 ⊢
    obtain ⟨c, e, h1⟩ := h1
    cases e
    exact kq _ g1 H1 hg1 f1 h1
  · rw [if_neg hb] at h1 ⊢
    exact ⟨s, g1, q, x, hs.keep (f1.tk hg), hg1, h1, kq.at f1, kx.at f1⟩
theorem l_ite {tc : TT3} {ta tb : TE3} {σ : L2.St} {H : Hp} {Q : VK} (h : liftE E w (eIf tc ta tb) σ H Q) : tIf (liftT E w tc) (liftE E w ta) (liftE E w tb) σ H Q := by
  obtain ⟨s, g, q, x, hs, hg, h, kq, kx⟩ := h
  refine ⟨s, g, _, x, hs, hg, h, fun b g1 H1 hg1 f1 h1 => ?_, kx⟩
  show if b = true then _ else _
  replace h1 : if b = true then _ else _ := h1
  by_cases hb : b = true
  · rw [if_pos hb] at h1 ⊢
    exact ⟨s, g1, q, x, hs.keep (f1.tk hg), hg1, h1, kq.at f1, kx.at f1⟩
  · rw [if_neg hb] at h1 ⊢
    exact ⟨s, g1, q, x, hs.keep (f1.tk hg), hg1, h1, kq.at f1, kx.at f1⟩
theorem pt_ite {t y z : Expr} {p : Pos} {tc : TT3} {ta tb : TE3} (hc : PT X t (liftT E w tc)) (ha : PT X y (liftT E w (bT ta))) (hb : PT X z (liftT E w (bT tb))) : PT X (.IfExp t y z p) (liftT E w (bT (eIf tc ta tb))) := by
  refine ⟨fun pins s σ H Q I h => ?_⟩
  obtain ⟨s3, g, q, x, hs, hg, h, kq, kx⟩ := h
  show wpAny _ _ (isTrue t X.env (eval t X.env) >>= fun b => if b = true then isTrue y X.env (eval y X.env) else isTrue z X.env (eval z X.env)) _ _ _
  refine wpAny_bind (thn (hc.run pins s σ H (fun b H1 => if b = true then liftT E w (bT ta) σ H1 Q else liftT E w (bT tb) σ H1 Q) I ⟨s3, g, _, x, hs, hg, h, fun b g1 H1 hg1 f1 h1 => ?_, kx⟩) fun b s1 hb1 => ?_)
  · show if b = true then _ else _
    replace h1 : if b = true then _ else _ := h1
    by_cases e : b = true
    · rw [if_pos e] at h1 ⊢
      exact ⟨s3, g1, _, x, hs.keep (f1.tk hg), hg1, h1, kq.at f1, kx.at f1⟩
    · rw [if_neg e] at h1 ⊢
      exact ⟨s3, g1, _, x, hs.keep (f1.tk hg), hg1, h1, kq.at f1, kx.at f1⟩
  · obtain ⟨H1, I1, q1⟩ := hb1
    by_cases e : b = true
    · rw [if_pos e] at q1 ⊢
      exact ha.run pins s1 σ H1 Q I1 q1
    · rw [if_neg e] at q1 ⊢
      exact hb.run pins s1 σ H1 Q I1 q1
def liftO (E : Env3) (w : WX) (t : TO3) : TO := fun σ H Q => ∃ s g q x, SR E.K H s σ ∧ GR E g H ∧ t x s g q ∧ (∀ o g' H', GR E g' H' → FK g H g' H' → q o g' → Q o H') ∧ KX E g H x (fun cls d H' => w cls d σ H')
theorem l_sl3 {ta : TE3} {tl th : TO3} {σ : L2.St} {H : Hp} {Q : VK} (h : liftE E w (eSl ta tl th) σ H Q) : tSl (liftSl (E := E) slS) (liftE E w ta) (liftO E w tl) (liftO E w th) σ H Q := by
  obtain ⟨s, g, q, x, hs, hg, h, kq, kx⟩ := h
  refine ⟨s, g, _, x, hs, hg, h, fun a g1 v H1 hg1 ra f1 h1 => ?_, kx⟩
  have t1 := f1.tk hg
  refine ⟨s, g1, _, x, hs.keep t1, hg1, h1, fun lo g2 H2 hg2 f2 h2 => ?_, kx.at f1⟩
  have t2 := f2.tk hg1
  refine ⟨s, g2, _, x, (hs.keep t1).keep t2, hg2, h2, fun hi g3 H3 hg3 f3 h3 => ?_, kx.at (f1.trans f2)⟩
  exact ⟨a, g3, q, (ra.keep t2).keep (f3.tk hg2), hg3, h3, kq.at ((f1.trans f2).trans f3)⟩
theorem po_I {e : Option Expr} {t t' : TO} (h : PO X e t) (i : ∀ σ H Q, t' σ H Q → t σ H Q) : PO X e t' := ⟨fun pins s σ H Q I q => h.run pins s σ H Q I (i σ H Q q)⟩
theorem pts_I {e : List Expr} {t t' : TT} (h : PTs X e t) (i : ∀ σ H Q, t' σ H Q → t σ H Q) : PTs X e t' := ⟨fun pins s σ H Q I q => h.run pins s σ H Q I (i σ H Q q)⟩
theorem CkOk.blk (ok : CkOk ck X E w CF gl) (hh : ck.hot = false) (s : Shared) (H : Hp) (scope : Scope) (hk : scope.kind = .function) (C : Addr) (cl : List (Str × Addr)) (fp : List Addr) :
    CkOk (ck.inner scope) (X.blk s H scope (compEnvC scope cl C X.env) fp) E w0 CF gl where
  hK := ok.hK
  hN := ok.hN
  nd := ok.nd
  sc := by
    show relabel scope X.env = relabel scope (envS ck.sc)
    unfold relabel
    rw [← ok.sc]
    rfl
  kind := hk
  calm := ok.calm
  stk := fun h => ff h
  cs := fun p h => let ⟨q⟩ := ok.cs p h; ⟨q⟩
  su := fun h => absurd (hh.symm.trans h) (by decide)
  fn := fun h => ff h
  tk := takes0
  pass := PassesOwn.never
  hu := ok.hu
  blt := ok.blt
  gls := ok.gls
  fns := fun _ i x e => let ⟨f, h1, h2, ⟨h3⟩⟩ := (ok.fns hh i x e).ex; ⟨f, h1, h2, ⟨h3⟩⟩
  goc := ok.goc
  cl := ⟨ok.cl.on, ok.cl.fl, ok.cl.cls, ok.cl.noat⟩
  ob := fun _ => ⟨fun c oc m i h1 h2 => let ⟨fa, k1, ⟨k2⟩⟩ := (ok.ob hh).meth c oc m i h1 h2; ⟨fa, k1, ⟨k2⟩⟩, fun c oc h1 => let ⟨fa, k1, k3, ⟨k2⟩, k4⟩ := (ok.ob hh).mkr c oc h1; ⟨fa, k1, k3, ⟨k2⟩, k4⟩⟩
  ics := fun p h => let ⟨q⟩ := ok.ics p h; ⟨q⟩
  xs := fun _ c x e => nomatch e
  xfl := ok.xfl
  hw := fun _ => rfl
  room := fun h => ff h
  hfn := fun h => ff h
end
end L3
set_option maxRecDepth 100000
set_option maxHeartbeats 16000000
namespace L3
open PySem PySem.Spec L2
section
variable {E : Env3} {CF : CF3} {gl : Gs}
theorem blk_kind {N : List Str} {sc scope : Scope} {own : List (Str × Nat)} (h : blkC N sc scope own = true) : scope.kind = .function := (blkOk_by h).kind
theorem own_ix {N : List Str} : ∀ {own : List Nat}, (∀ i ∈ own, i < N.length) → (own.filterMap fun i => N[i]?.map fun x => (x, i)).map (·.2) = own
  | [], _ => rfl
  | i :: own, h => by
    have hi := h i List.mem_cons_self
    rw [List.filterMap_cons, List.getElem?_eq_getElem hi]
    show i :: _ = _
    rw [own_ix fun j hj => h j (List.mem_cons_of_mem _ hj)]
theorem fold_id {iter : Expr} {env : Env} (h : (match iter with | .Set .. => false | _ => true) = true) : ∀ x, foldedSetIterable iter env x = pure x := by
  intro x
  cases iter <;> first | rfl | (simp at h)
theorem chk_noset {ck : Ck} : ∀ (e : E3) (a : List Expr) (b : Nat) (c : Pos), chk e ck (.Set a b c) = true → False
  | .frz e, a, b, c, h => chk_noset e a b c (i_frz h).2
  | .var _, _, _, _, h => ff h | .int _, _, _, _, h => ff h | .str _, _, _, _, h => ff h | .bl _, _, _, _, h => ff h | .non, _, _, _, h => ff h | .glob _, _, _, _, h => ff h | .bin _ _ _, _, _, _, h => ff h
  | .neg _, _, _, _, h => ff h | .cmp _ _ _, _, _, _, h => ff h | .cmp2 _ _ _ _ _, _, _, _, h => ff h | .cmp3 _ _ _ _ _ _ _, _, _, _, h => ff h | .and _, _, _, _, h => ff h | .or _, _, _, _, h => ff h | .not _, _, _, _, h => ff h
  | .ite _ _ _, _, _, _, h => ff h | .lst _, _, _, _, h => ff h | .tup _, _, _, _, h => ff h | .dic _, _, _, _, h => ff h | .ix _ _, _, _, _, h => ff h | .sl _ _ _, _, _, _, h => ff h | .call _ _, _, _, _, h => ff h
  | .prim _ _, _, _, _, h => ff h | .meth _ _ _, _, _, _, h => ff h | .isi _ _, _, _, _, h => ff h | .isx _ _ _, _, _, _, h => ff h | .isxs _ _, _, _, _, h => ff h | .lc _ _ _ _ _, _, _, _, h => ff h | .lcK _ _ _ _ _, _, _, _, h => ff h
  | .dget1 _ _, _, _, _, h => ff h | .dget2 _ _ _, _, _, _, h => ff h | .dsetd _ _ _, _, _, _, h => ff h | .dpop1 _ _, _, _, _, h => ff h | .dic1 _ _, _, _, _, h => ff h | .dic2 _ _ _ _, _, _, _, h => ff h | .lrev _, _, _, _, h => ff h | .lset _, _, _, _, h => ff h | .mxd _ _ _, _, _, _, h => ff h | .sset _, _, _, _, h => ff h
  | .attr _ _, _, _, _, h => ff h | .mcall _ _ _, _, _, _, h => ff h | .new _ _ _, _, _, _, h => ff h | .fmt _, _, _, _, h => ff h | .fstr _, _, _, _, h => ff h | .nev, _, _, _, h => ff h | .ccall _ _ _ _, _, _, _, h => ff h | .isc _ _ _, _, _, _, h => ff h | .xattr _ _, _, _, _, h => ff h | .hcall _ _, _, _, _, h => ff h
theorem chk_nostar {ck : Ck} : ∀ (e : E3) (a : Expr) (c : Pos), chk e ck (.Starred a c) = true → False
  | .frz e, a, c, h => chk_nostar e a c (i_frz h).2
  | .var _, _, _, h => ff h | .int _, _, _, h => ff h | .str _, _, _, h => ff h | .bl _, _, _, h => ff h | .non, _, _, h => ff h | .glob _, _, _, h => ff h | .bin _ _ _, _, _, h => ff h
  | .neg _, _, _, h => ff h | .cmp _ _ _, _, _, h => ff h | .cmp2 _ _ _ _ _, _, _, h => ff h | .cmp3 _ _ _ _ _ _ _, _, _, h => ff h | .and _, _, _, h => ff h | .or _, _, _, h => ff h | .not _, _, _, h => ff h
  | .ite _ _ _, _, _, h => ff h | .lst _, _, _, h => ff h | .tup _, _, _, h => ff h | .dic _, _, _, h => ff h | .ix _ _, _, _, h => ff h | .sl _ _ _, _, _, h => ff h | .call _ _, _, _, h => ff h
  | .prim _ _, _, _, h => ff h | .meth _ _ _, _, _, h => ff h | .isi _ _, _, _, h => ff h | .isx _ _ _, _, _, h => ff h | .isxs _ _, _, _, h => ff h | .lc _ _ _ _ _, _, _, h => ff h | .lcK _ _ _ _ _, _, _, h => ff h
  | .dget1 _ _, _, _, h => ff h | .dget2 _ _ _, _, _, h => ff h | .dsetd _ _ _, _, _, h => ff h | .dpop1 _ _, _, _, h => ff h | .dic1 _ _, _, _, h => ff h | .dic2 _ _ _ _, _, _, h => ff h | .lrev _, _, _, h => ff h | .lset _, _, _, h => ff h | .mxd _ _ _, _, _, h => ff h | .sset _, _, _, h => ff h
  | .attr _ _, _, _, h => ff h | .mcall _ _ _, _, _, h => ff h | .new _ _ _, _, _, h => ff h | .fmt _, _, _, h => ff h | .fstr _, _, _, h => ff h | .nev, _, _, h => ff h | .ccall _ _ _ _, _, _, h => ff h | .isc _ _ _, _, _, h => ff h | .xattr _ _, _, _, h => ff h | .hcall _ _, _, _, h => ff h
theorem chki_noset {it : I3} {ck : Ck} {t : Bool} {x : Expr} : chki it ck t x = true → (match x with | .Set .. => false | _ => true) = true := by
  intro h
  cases x <;> first | rfl | skip
  have key : ∀ (e : E3) (a : List Expr) (b : Nat) (c : Pos), chk e ck (.Set a b c) = true → False := chk_noset
  cases it <;> first | exact ff h | exact (key _ _ _ _ h).elim
theorem i_items {a : E3} {ck : Ck} {t : Bool} {x : Expr} (h : chki (.items a) ck t x = true) : ∃ l q p, x = .Call (.Attribute l "items" q) [] [] p ∧ t = true ∧ plainBase l = true ∧ (q.endLine == p.line) = true ∧ chk a ck l = true := by
  cases x <;> first | exact ff h | skip
  rename_i fn vs kw p
  cases fn <;> first | exact ff h | skip
  match vs, kw, h with
  | [], [], h =>
    obtain ⟨h, h4⟩ := bool_and h
    obtain ⟨h, h3⟩ := bool_and h
    obtain ⟨h, h2⟩ := bool_and h
    obtain ⟨h0, h1⟩ := bool_and h
    have e := of_decide_eq_true h1
    subst e
    exact ⟨_, _, _, rfl, h0, h2, h3, h4⟩
  | _ :: _, _, h => exact ff h
  | [], _ :: _, h => exact ff h
theorem l_lcK {E : Env3} {w : WX} {tg : T3} {own : List Nat} {ti : TI3} {tt : TT3} {te : TE3} (m : ∀ i ∈ tIs tg, i ∈ own) {σ : L2.St} {H : Hp} {Q : VK}
    (h : liftE E w (fun x s g q => ti x s g fun items ok g1 => lcI tg ok (fun s2 g2 k => tt (fun _ _ _ => False) s2 g2 k) (fun s2 g2 k => te (fun _ _ _ => False) s2 g2 k) (wipe3 s own) (fun w g' => un g (q w) g') items [] g1) σ H Q) :
    tUnlE (tLc (liftI E w ti) (gT E.K tg) (liftT E w0 tt) (liftE E w0 te) own) σ H Q := by
  obtain ⟨s, g, q, x, hs, hg, h, kq, kx⟩ := h
  exact l_lc (Q := fun v H' => unH H (Q v) H') m ⟨s, g, _, x, hs, hg, h, un_kq hg kq, kx⟩
theorem i_1 {it : E3 → I3} {nm : Str} {a : E3} {ck : Ck} {t : Bool} {x : Expr} (hs : (it = .rng1 ∧ nm = "range") ∨ (it = .rev ∧ nm = "reversed") ∨ (it = .enum ∧ nm = "enumerate")) (h : chki (it a) ck t x = true) :
    ∃ q v p, x = .Call (.Name nm q) [v] [] p ∧ isGl ck nm = true ∧ chk a ck v = true ∧ plainE v = true ∧ (it = .enum → t = true) := by
  rcases hs with ⟨rfl, rfl⟩ | ⟨rfl, rfl⟩ | ⟨rfl, rfl⟩
  · cases x <;> first | exact ff h | skip
    rename_i fn vs kw p
    cases fn <;> first | exact ff h | skip
    match vs, kw, h with
    | [v], [], h =>
      obtain ⟨h, h4⟩ := bool_and h
      obtain ⟨h, h3⟩ := bool_and h
      obtain ⟨h1, h2⟩ := bool_and h
      have e := of_decide_eq_true h1
      subst e
      exact ⟨_, _, _, rfl, h2, h3, h4, fun z => nomatch congrFun z a⟩
    | [], _, h => exact ff h
    | _ :: _ :: _, _, h => exact ff h
    | [_], _ :: _, h => exact ff h
  · cases x <;> first | exact ff h | skip
    rename_i fn vs kw p
    cases fn <;> first | exact ff h | skip
    match vs, kw, h with
    | [v], [], h =>
      obtain ⟨h, h4⟩ := bool_and h
      obtain ⟨h, h3⟩ := bool_and h
      obtain ⟨h1, h2⟩ := bool_and h
      have e := of_decide_eq_true h1
      subst e
      exact ⟨_, _, _, rfl, h2, h3, h4, fun z => nomatch congrFun z a⟩
    | [], _, h => exact ff h
    | _ :: _ :: _, _, h => exact ff h
    | [_], _ :: _, h => exact ff h
  · cases x <;> first | exact ff h | skip
    rename_i fn vs kw p
    cases fn <;> first | exact ff h | skip
    match vs, kw, h with
    | [v], [], h =>
      obtain ⟨h, h4⟩ := bool_and h
      obtain ⟨h, h3⟩ := bool_and h
      obtain ⟨h, h2⟩ := bool_and h
      obtain ⟨h0, h1⟩ := bool_and h
      have e := of_decide_eq_true h1
      subst e
      exact ⟨_, _, _, rfl, h2, h3, h4, fun _ => h0⟩
    | [], _, h => exact ff h
    | _ :: _ :: _, _, h => exact ff h
    | [_], _ :: _, h => exact ff h
theorem i_2 {it : E3 → E3 → I3} {nm : Str} {a b : E3} {ck : Ck} {t : Bool} {x : Expr} (hs : (it = .rng2 ∧ nm = "range") ∨ (it = .zip ∧ nm = "zip")) (h : chki (it a b) ck t x = true) :
    ∃ q v u p, x = .Call (.Name nm q) [v, u] [] p ∧ isGl ck nm = true ∧ chk a ck v = true ∧ chk b ck u = true ∧ plainE v = true ∧ plainE u = true ∧ (it = .zip → t = true) := by
  rcases hs with ⟨rfl, rfl⟩ | ⟨rfl, rfl⟩
  · cases x <;> first | exact ff h | skip
    rename_i fn vs kw p
    cases fn <;> first | exact ff h | skip
    match vs, kw, h with
    | [v, u], [], h =>
      obtain ⟨h, h6⟩ := bool_and h
      obtain ⟨h, h5⟩ := bool_and h
      obtain ⟨h, h4⟩ := bool_and h
      obtain ⟨h, h3⟩ := bool_and h
      obtain ⟨h1, h2⟩ := bool_and h
      have e := of_decide_eq_true h1
      subst e
      exact ⟨_, _, _, _, rfl, h2, h3, h4, h5, h6, fun z => nomatch congrFun (congrFun z a) b⟩
    | [], _, h => exact ff h
    | [_], _, h => exact ff h
    | _ :: _ :: _ :: _, _, h => exact ff h
    | [_, _], _ :: _, h => exact ff h
  · cases x <;> first | exact ff h | skip
    rename_i fn vs kw p
    cases fn <;> first | exact ff h | skip
    match vs, kw, h with
    | [v, u], [], h =>
      obtain ⟨h, h6⟩ := bool_and h
      obtain ⟨h, h5⟩ := bool_and h
      obtain ⟨h, h4⟩ := bool_and h
      obtain ⟨h, h3⟩ := bool_and h
      obtain ⟨h, h2⟩ := bool_and h
      obtain ⟨h0, h1⟩ := bool_and h
      have e := of_decide_eq_true h1
      subst e
      exact ⟨_, _, _, _, rfl, h2, h3, h4, h5, h6, fun _ => h0⟩
    | [], _, h => exact ff h
    | [_], _, h => exact ff h
    | _ :: _ :: _ :: _, _, h => exact ff h
    | [_, _], _ :: _, h => exact ff h
theorem i_3 {a b c : E3} {ck : Ck} {t : Bool} {x : Expr} (h : chki (.rng3 a b c) ck t x = true) :
    ∃ q v u y p, x = .Call (.Name "range" q) [v, u, y] [] p ∧ isGl ck "range" = true ∧ chk a ck v = true ∧ chk b ck u = true ∧ chk c ck y = true ∧ plainE v = true ∧ plainE u = true ∧ plainE y = true := by
  cases x <;> first | exact ff h | skip
  rename_i fn vs kw p
  cases fn <;> first | exact ff h | skip
  match vs, kw, h with
  | [v, u, y], [], h =>
    obtain ⟨h, h8⟩ := bool_and h
    obtain ⟨h, h7⟩ := bool_and h
    obtain ⟨h, h6⟩ := bool_and h
    obtain ⟨h, h5⟩ := bool_and h
    obtain ⟨h, h4⟩ := bool_and h
    obtain ⟨h, h3⟩ := bool_and h
    obtain ⟨h1, h2⟩ := bool_and h
    have e := of_decide_eq_true h1
    subst e
    exact ⟨_, _, _, _, _, rfl, h2, h3, h4, h5, h6, h7, h8⟩
  | [], _, h => exact ff h
  | [_], _, h => exact ff h
  | [_, _], _, h => exact ff h
  | _ :: _ :: _ :: _ :: _, _, h => exact ff h
  | [_, _, _], _ :: _, h => exact ff h
theorem isTup_inv {e : Expr} (h : isTupE e = true) : ∃ es k p, e = .Tuple es k p := by
  cases e <;> first | exact ff h | exact ⟨_, _, _, rfl⟩
mutual
theorem s_e : ∀ (e : E3) {X : Cx} {w : WX} {ck : Ck}, CkOk ck X E w CF gl → ∀ {x : Expr}, chk e ck x = true → PE X x (liftE E w (ev CF gl e)) ∧ PT X x (liftT E w (bT (ev CF gl e)))
  | .var i, X, w, ck, ok, x, h => by
    obtain ⟨y, p, rfl, h⟩ := i_var h
    obtain ⟨h1, h2, h3, h4⟩ := ok.var h
    have a : PE X (.Name y p) (liftE E w (eVar i)) := peI (pe_var h1 h2 h3 h4) fun _ _ _ => l_var i
    exact ⟨a, ptOf a rfl⟩
  | .int i, X, w, ck, ok, x, h => by
    obtain ⟨k, p, rfl⟩ := i_int h
    have a : PE X (.Constant (.int i) k p) (liftE E w (eC (.int i))) := peI pe_int fun _ _ _ => l_c fun _ => rv_int
    exact ⟨a, ptOf a rfl⟩
  | .str i, X, w, ck, ok, x, h => by
    obtain ⟨k, p, rfl⟩ := i_str h
    have a : PE X (.Constant (.str i) k p) (liftE E w (eC (.str i))) := peI pe_str fun _ _ _ => l_c fun _ => rv_str
    exact ⟨a, ptOf a rfl⟩
  | .bl i, X, w, ck, ok, x, h => by
    obtain ⟨k, p, rfl⟩ := i_bl h
    have a : PE X (.Constant (.bool i) k p) (liftE E w (eC (.bl i))) := peI pe_bl fun _ _ _ => l_c fun _ => rv_bl
    exact ⟨a, ptOf a rfl⟩
  | .non, X, w, ck, ok, x, h => by
    obtain ⟨k, p, rfl⟩ := i_non h
    have a : PE X (.Constant .none k p) (liftE E w (eC .non)) := peI pe_non fun _ _ _ => l_c fun _ => rv_non
    exact ⟨a, ptOf a rfl⟩
  | .glob i, X, w, ck, ok, x, h => by
    obtain ⟨y, p, rfl, h1, h2⟩ := i_glob h
    obtain ⟨u, v, hm, ru, rv⟩ := ok.gls i y h1
    obtain ⟨g1, g2⟩ := ok.gl' h2
    have a : PE X (.Name y p) (liftE E w (eC (gl.v i))) := peI (pe_glob g1 hm ru g2) fun _ _ _ => l_c rv
    exact ⟨a, ptOf a rfl⟩
  | .bin o a b, X, w, ck, ok, x, h => by
    obtain ⟨l, r, p, rfl, h1, h2⟩ := i_bin h
    have a' : PE X (.BinOp l (boOf o) r p) (liftE E w (e2 (boS o) (ev CF gl a) (ev CF gl b))) := peI (pe_op (bo_ok ok o) (s_e a ok h1).1 (s_e b ok h2).1) fun _ _ _ => l_2
    exact ⟨a', ptOf a' rfl⟩
  | .neg a, X, w, ck, ok, x, h => by
    obtain ⟨l, p, rfl, h1⟩ := i_neg h
    have a' : PE X (.UnaryOp .USub l p) (liftE E w (e1 negS (ev CF gl a))) := peI (pe_un l_neg (s_e a ok h1).1) fun _ _ _ => l_1
    exact ⟨a', ptOf a' rfl⟩
  | .cmp o a b, X, w, ck, ok, x, h => by
    obtain ⟨l, r, p, rfl, h1, h2, h3⟩ := i_cmp h
    exact ⟨peI (pe_cmpR (co_ok ok o) (s_e a ok h1).1 (s_e b ok h2).1 h3) fun _ _ _ => l_2, ptI (pt_cmpR (co_ok ok o) (s_e a ok h1).1 (s_e b ok h2).1 h3) fun _ _ _ => l_tst l_2⟩
  | .cmp2 o o' a b c, X, w, ck, ok, x, h => by
    obtain ⟨l, r, r', p, rfl, h1, h2, h3, h4⟩ := i_cmp2 h
    exact ⟨peI (pe_chain (co_ok ok o) (co_ok ok o') (s_e a ok h1).1 (s_e b ok h2).1 (s_e c ok h3).1 h4) fun _ _ _ => l_chain,
      ptI (pt_chain (co_ok ok o) (co_ok ok o') (s_e a ok h1).1 (s_e b ok h2).1 (s_e c ok h3).1 h4) fun _ _ _ q => l_chain (l_bT q)⟩
  | .cmp3 o o' o'' a b c d, X, w, ck, ok, x, h => by
    obtain ⟨l, r, r', r'', p, rfl, h1, h2, h3, h4, h5⟩ := i_cmp3 h
    exact ⟨peI (pe_chain3 (co_ok ok o) (co_ok ok o') (co_ok ok o'') (s_e a ok h1).1 (s_e b ok h2).1 (s_e c ok h3).1 (s_e d ok h4).1 h5) fun _ _ _ => l_chain3,
      ptI (pt_chain3 (co_ok ok o) (co_ok ok o') (co_ok ok o'') (s_e a ok h1).1 (s_e b ok h2).1 (s_e c ok h3).1 (s_e d ok h4).1 h5) fun _ _ _ q => l_chain3 (l_bT q)⟩
  | .and es, X, w, ck, ok, x, h => by
    obtain ⟨vs, p, rfl, h⟩ := i_and h
    exact ⟨(s_and es ok h p).1, (s_and es ok h p).2.pt⟩
  | .or es, X, w, ck, ok, x, h => by
    obtain ⟨vs, p, rfl, h⟩ := i_or h
    exact ⟨(s_or es ok h p).1, (s_or es ok h p).2.pt⟩
  | .not a, X, w, ck, ok, x, h => by
    obtain ⟨l, p, rfl, h1⟩ := i_not h
    exact ⟨peI (pe_not (s_e a ok h1).1) fun _ _ _ => l_not, ptI (pt_not (s_e a ok h1).2) fun _ _ _ => l_notT⟩
  | .ite c a b, X, w, ck, ok, x, h => by
    obtain ⟨t, l, r, p, rfl, h1, h2, h3⟩ := i_ite h
    exact ⟨peI (pe_ifExp (s_e c ok h1).2 (s_e a ok h2).1 (s_e b ok h3).1) fun _ _ _ => l_ite, pt_ite (s_e c ok h1).2 (s_e a ok h2).2 (s_e b ok h3).2⟩
  | .lst es, X, w, ck, ok, x, h => by
    obtain ⟨vs, p, rfl, h⟩ := i_lst h
    have a : PE X (.List vs p) (liftE E w (eLst (evs CF gl es))) := peI (pe_lst (s_es es ok h)) fun _ _ _ => l_lst
    exact ⟨a, ptOf a rfl⟩
  | .tup es, X, w, ck, ok, x, h => by
    obtain ⟨vs, k, p, rfl, h⟩ := i_tup h
    have a : PE X (.Tuple vs k p) (liftE E w (eTup (evs CF gl es))) := peI (pe_tup (s_es es ok h)) fun _ _ _ => l_tup
    exact ⟨a, ptOf a rfl⟩
  | .dic false, X, w, ck, ok, x, h => by
    obtain ⟨p, rfl⟩ := i_dic h
    have a : PE X (.Dict [] [] p) (liftE E w (eDic false)) := peI pe_dnewK fun _ _ _ => l_dicK
    exact ⟨a, ptOf a rfl⟩
  | .dic true, X, w, ck, ok, x, h => by
    obtain ⟨p, rfl⟩ := i_dic h
    have a : PE X (.Dict [] [] p) (liftE E w (eDic true)) := peI pe_dnewT fun _ _ _ => l_dicT
    exact ⟨a, ptOf a rfl⟩
  | .ix a i, X, w, ck, ok, x, h => by
    obtain ⟨l, r, p, rfl, h1, h2, h3⟩ := i_ix h
    have a' : PE X (.Subscript l r p) (liftE E w (e2 ixS (ev CF gl a) (ev CF gl i))) := peI (pe_ix (l_ix ok.hK (by have := ok.hu; omega)) (s_e a ok h1).1 (s_e i ok h2).1 (plainIx_of h3)) fun _ _ _ => l_2
    exact ⟨a', ptOf a' rfl⟩
  | .sl a lo hi, X, w, ck, ok, x, h => by
    obtain ⟨l, l1, l2, q, p, rfl, h1, h2, h3⟩ := i_sl h
    have a' : PE X (.Subscript l (.Slice l1 l2 none q) p) (liftE E w (eSl (ev CF gl a) (evo CF gl lo) (evo CF gl hi))) := peI (pe_slice (l_sl ok.hK) (s_e a ok h1).1 (s_o lo ok h2) (s_o hi ok h3)) fun _ _ _ => l_sl3
    exact ⟨a', ptOf a' rfl⟩
  | .call f es, X, w, ck, ok, x, h => by
    obtain ⟨y, q, vs, p, rfl, h1, h2, h3, hh⟩ := i_call h
    have a' := s_call (q := q) (p := p) ok h2 (ok.fns hh f y h1) (s_es es ok h3) (chks_plain h3) (fun e => by subst e; cases es <;> first | rfl | exact ff h3)
    exact ⟨a', ptOf a' rfl⟩
  | .prim f es, X, w, ck, ok, x, h => by
    obtain ⟨q, v, vs, p, rfl, h1, h2, hh⟩ := i_prim h
    obtain ⟨g1, g2⟩ := ok.gl' h1
    have hp := chks_plain h2
    have a' : PE X (.Call (.Name (prOf f).1 q) (v :: vs) [] p) (liftE E w (eL (prS f) (evs CF gl es))) := by
      cases e : (prOf f).2 with
      | true =>
        obtain ⟨T, e1, e2⟩ := prim_ty f e
        exact peI (pe_callTy (pr_ty ok hh e2) g1 (ok.blt _ (prim_in f).1) e1 (s_es es ok h2) (prim_in f).2 g2 (star_plain (hp v List.mem_cons_self)) (star_any fun u hu => hp u (List.mem_cons_of_mem v hu))) fun _ _ _ => l_L
      | false =>
        obtain ⟨T, e1, e2⟩ := prim_bi f e
        exact peI (pe_callB (pr_bi ok hh e2) g1 (ok.blt _ (prim_in f).1) e1 (s_es es ok h2) (prim_in f).2 g2 (star_plain (hp v List.mem_cons_self)) (star_any fun u hu => hp u (List.mem_cons_of_mem v hu))) fun _ _ _ => l_L
    exact ⟨a', ptOf a' rfl⟩
  | .meth m o es, X, w, ck, ok, x, h => by
    obtain ⟨l, q, vs, p, rfl, h1, h2, h3, h4, h5⟩ := i_meth h
    have a' := s_meth ok m (p := p) h1 h2 h5 (s_e o ok h3).1 (s_es es ok h4) (chks_plain h4) (fun e => by subst e; cases es <;> first | rfl | exact ff h4)
    exact ⟨a', ptOf a' rfl⟩
  | .isi a T, X, w, ck, ok, x, h => by
    obtain ⟨q, l, q', p, rfl, h1, h2, h3, h4⟩ := i_isi h
    have hp : plainE l = true := by cases l <;> first | rfl | exact (chk_nostar _ _ _ h4).elim
    have a' := s_isi (q := q) (q' := q') (p := p) ok h1 h2 h3 hp (s_e a ok h4).1
    exact ⟨a', ptOf a' rfl⟩
  | .isx i y row, X, w, ck, ok, x, h => by
    obtain ⟨q, n, q1, q', p, rfl, h1, h2, h3, h4, h5⟩ := i_isx h
    have a' := s_isx (q := q) (q1 := q1) (q' := q') (p := p) ok h1 h2 h3 h4 h5
    exact ⟨a', ptOf a' rfl⟩
  | .isxs i ys, X, w, ck, ok, x, h => by
    obtain ⟨q, n, q1, es, k, q2, p, rfl, h1, h2, h3, h4, h5⟩ := i_isxs h
    have a' := s_isxs (q := q) (q1 := q1) (q2 := q2) (k := k) (p := p) ok h1 h2 h3 h4 h5
    exact ⟨a', ptOf a' rfl⟩
  | .xattr i f, X, w, ck, ok, x, h => by
    obtain ⟨n, q, p, rfl, h1, h2, h3⟩ := i_xattr h
    have a' := s_xattr (q := q) (p := p) ok h1 h2 h3
    exact ⟨a', ptOf a' rfl⟩
  | .hcall f es, X, w, ck, ok, x, h => by
    obtain ⟨y, q, v, vs, p, rfl, h1, h2, h3, hh, hd⟩ := i_hcall h
    have a' := s_hcall (q := q) (p := p) ok hh h2 (ok.hfn hd f y h1) (s_es es ok h3) (chks_plain h3)
    exact ⟨a', ptOf a' rfl⟩
  | .lc elt tg it c own, X, w, ck, ok, x, h => by
    obtain ⟨e, tg', it', ifs, scope, p, rfl, h1, h2, h3, h4, h5, h6, h7, h8, hh⟩ := i_lc h
    have hk := blk_kind h1
    have hb : BlkOk X.N X.env.scope scope (own.filterMap fun i => ck.N[i]?.map fun x => (x, i)) := by rw [ok.hN, ok.sc]; exact blkOk_by h1
    have a' : PE X (.ListComp e [⟨tg', it', ifs, 0⟩] scope p) (liftE E w (ev CF gl (.lc elt tg it c own))) := by
      refine peI (pe_lc (ok.calm hh) ok.nd' (s_i it ok tg' h5) hb (fun s H C cl fp => s_t (ok.blk hh s H scope hk C cl fp) h6) (fun s H C cl fp => s_c c (ok.blk hh s H scope hk C cl fp) h8)
        (fun s H C cl fp => (s_e elt (ok.blk hh s H scope hk C cl fp) h7).1) (fold_id (chki_noset h5))) fun σ H Q q => ?_
      rw [own_ix h3]
      exact l_lc h2 q
    exact ⟨a', ptOf a' rfl⟩
  | .lcK elt tg it c own, X, w, ck, ok, x, h => by
    obtain ⟨e, tg', it', ifs, scope, p, rfl, h1, h2, h3, h4, h5, h6, h7, h8, hh⟩ := i_lcK h
    have hk := blk_kind h1
    have hb : BlkOk X.N X.env.scope scope (own.filterMap fun i => ck.N[i]?.map fun x => (x, i)) := by rw [ok.hN, ok.sc]; exact blkOk_by h1
    have a' : PE X (.ListComp e [⟨tg', it', ifs, 0⟩] scope p) (liftE E w (ev CF gl (.lcK elt tg it c own))) := by
      refine peI (pe_unl (pe_lc (ok.calm hh) ok.nd' (s_i it ok tg' h5) hb (fun s H C cl fp => s_t (ok.blk hh s H scope hk C cl fp) h6) (fun s H C cl fp => s_c c (ok.blk hh s H scope hk C cl fp) h8)
        (fun s H C cl fp => (s_e elt (ok.blk hh s H scope hk C cl fp) h7).1) (fold_id (chki_noset h5)))) fun σ H Q q => ?_
      rw [own_ix h3]
      exact l_lcK h2 q
    exact ⟨a', ptOf a' rfl⟩
  | .dget1 o e, X, w, ck, ok, x, h => by
    obtain ⟨l, q, v, p, rfl, h1, h2, h3, h4, h5⟩ := i_dget1 h
    have a' : PE X (.Call (.Attribute l "get" q) [v] [] p) (liftE E w (ev CF gl (.dget1 o e))) := peI (pe_dget1 (by have := ok.hu; omega) (s_e o ok h3).1 (s_e e ok h4).1 (m1_of X h1 h2 h5)) fun _ _ _ => l_dget1
    exact ⟨a', ptOf a' rfl⟩
  | .dpop1 o e, X, w, ck, ok, x, h => by
    obtain ⟨l, q, v, p, rfl, h1, h2, h3, h4, h5⟩ := i_dpop1 h
    have a' : PE X (.Call (.Attribute l "pop" q) [v] [] p) (liftE E w (ev CF gl (.dpop1 o e))) := peI (pe_dpop1 (s_e o ok h3).1 (s_e e ok h4).1 (m1_of X h1 h2 h5)) fun _ _ _ => l_dpop1
    exact ⟨a', ptOf a' rfl⟩
  | .dget2 o e d, X, w, ck, ok, x, h => by
    obtain ⟨l, q, v, u, p, rfl, h1, h2, h3, h4, h5, h6, h7⟩ := i_dget2 h
    have a' : PE X (.Call (.Attribute l "get" q) [v, u] [] p) (liftE E w (ev CF gl (.dget2 o e d))) := peI (pe_dget2 (by have := ok.hu; omega) (s_e o ok h3).1 (s_e e ok h4).1 (s_e d ok h5).1 (m2_of X h1 h2 h6 h7)) fun _ _ _ => l_dget2
    exact ⟨a', ptOf a' rfl⟩
  | .dsetd o e d, X, w, ck, ok, x, h => by
    obtain ⟨l, q, v, u, p, rfl, h1, h2, h3, h4, h5, h6, h7⟩ := i_dsetd h
    have a' : PE X (.Call (.Attribute l "setdefault" q) [v, u] [] p) (liftE E w (ev CF gl (.dsetd o e d))) := peI (pe_dsetd (s_e o ok h3).1 (s_e e ok h4).1 (s_e d ok h5).1 (m2_of X h1 h2 h6 h7)) fun _ _ _ => l_dsetd
    exact ⟨a', ptOf a' rfl⟩
  | .lrev a, X, w, ck, ok, x, h => by
    obtain ⟨q, q2, v, p2, p, rfl, h1, h2, h3, h4, hh⟩ := i_lrev h
    obtain ⟨g1, g2⟩ := ok.gl' h1
    obtain ⟨g3, g4⟩ := ok.gl' h2
    have a' : PE X (.Call (.Name "list" q) [.Call (.Name "reversed" q2) [v] [] p2] [] p) (liftE E w (ev CF gl (.lrev a))) := peI (pe_lstRev (ok.calm hh) g1 (ok.blt _ (by decide +kernel)) g3 (ok.blt _ (by decide +kernel)) (s_e a ok h3).1 (star_plain h4)) fun _ _ _ => l_lrev ok.hK
    exact ⟨a', ptOf a' rfl⟩
  | .mxd mn a d, X, w, ck, ok, x, h => by
    obtain ⟨q, v, u, kp, p, rfl, h1, h2, h3, h4, hh⟩ := i_mxd h
    obtain ⟨g1, g2⟩ := ok.gl' h1
    have a' : PE X (.Call (.Name (if mn = true then ("min" : Str) else ("max" : Str)) q) [v] [⟨some "default", u, kp⟩] p) (liftE E w (ev CF gl (.mxd mn a d))) := pe_mxd ok.hK (ok.calm hh) (by have := ok.hu; omega) g1 (ok.blt _ (by cases mn <;> decide +kernel)) (s_e a ok h2).1 (s_e d ok h3).1 (star_plain h4)
    exact ⟨a', ptOf a' rfl⟩
  | .lset a, X, w, ck, ok, x, h => by
    obtain ⟨q, q2, v, p2, p, rfl, h1, h2, h3, h4, hh⟩ := i_lset h
    obtain ⟨g1, g2⟩ := ok.gl' h1
    obtain ⟨g3, g4⟩ := ok.gl' h2
    have a' : PE X (.Call (.Name "len" q) [.Call (.Name "set" q2) [v] [] p2] [] p) (liftE E w (ev CF gl (.lset a))) := pe_lset ok.hK (ok.calm hh) g1 (ok.blt _ (by decide +kernel)) g3 (ok.blt _ (by decide +kernel)) (s_e a ok h3).1 (star_plain h4)
    exact ⟨a', ptOf a' rfl⟩
  | .sset a, X, w, ck, ok, x, h => by
    obtain ⟨q, q2, v, p2, p, rfl, h1, h2, h3, h4, hh⟩ := i_sset h
    obtain ⟨g1, g2⟩ := ok.gl' h1
    obtain ⟨g3, g4⟩ := ok.gl' h2
    have a' : PE X (.Call (.Name "sorted" q) [.Call (.Name "set" q2) [v] [] p2] [] p) (liftE E w (ev CF gl (.sset a))) := pe_sset ok.hK (ok.calm hh) (by have := ok.hu; omega) g1 (ok.blt _ (by decide +kernel)) g3 (ok.blt _ (by decide +kernel)) (s_e a ok h3).1 (star_plain h4)
    exact ⟨a', ptOf a' rfl⟩
  | .dic2 k v k2 v2, X, w, ck, ok, x, h => by
    obtain ⟨a, b, a2, b2, p, rfl, h1, h2, h3, h4⟩ := i_dic2 h
    have a' : PE X (.Dict [some a, some a2] [b, b2] p) (liftE E w (ev CF gl (.dic2 k v k2 v2))) := peI (pe_disp (pps_cons (s_e k ok h1).1 (s_e v ok h2).1 (pps_cons (s_e k2 ok h3).1 (s_e v2 ok h4).1 pps_nil)) rfl rfl (by simp) (Nat.le_of_ble_eq_true rfl)) fun _ _ _ => l_dic2
    exact ⟨a', ptOf a' rfl⟩
  | .dic1 k v, X, w, ck, ok, x, h => by
    obtain ⟨a, b, p, rfl, h1, h2⟩ := i_dic1 h
    have a' : PE X (.Dict [some a] [b] p) (liftE E w (ev CF gl (.dic1 k v))) := peI (pe_disp (pps_cons (s_e k ok h1).1 (s_e v ok h2).1 pps_nil) rfl rfl (by simp) (Nat.le_of_ble_eq_true rfl)) fun _ _ _ => l_dic1
    exact ⟨a', ptOf a' rfl⟩
  | .frz e, X, w, ck, ok, x, h => by
    obtain ⟨h1, h2⟩ := i_frz h
    have a' : PE X x (liftE E w (ev CF gl (.frz e))) := peI (pe_lk (s_e e ok h2).1) fun _ _ _ => l_frz
    exact ⟨a', ptOf a' h1⟩
  | .attr o f, X, w, ck, ok, x, h => by
    obtain ⟨l, p, rfl, h1, h2, h3⟩ := i_attr h
    have a' : PE X (.Attribute l f p) (liftE E w (ev CF gl (.attr o f))) := s_attr ok h1 h2 (s_e o ok h3).1
    exact ⟨a', ptOf a' rfl⟩
  | .mcall o m es, X, w, ck, ok, x, h => by
    obtain ⟨l, q, vs, p, rfl, h1, h2, h3, h4, h5, h6, hh⟩ := i_mcall h
    have a' : PE X (.Call (.Attribute l m q) vs [] p) (liftE E w (ev CF gl (.mcall o m es))) := s_mcall ok hh h1 h2 h3 h6 (s_e o ok h4).1 (s_es es ok h5) (chks_plain h5) (fun e => by subst e; cases es <;> first | rfl | exact ff h5)
    exact ⟨a', ptOf a' rfl⟩
  | .new c f es, X, w, ck, ok, x, h => by
    obtain ⟨y, q, vs, p, oc, rfl, h1, h2, h3, h4, h5, hh⟩ := i_new h
    have a' : PE X (.Call (.Name y q) vs [] p) (liftE E w (ev CF gl (.new c f es))) := by
      exact s_new (q := q) (p := p) ok hh h1 h2 h3 h4 (s_es es ok h5) (chks_plain h5) (fun e => by subst e; cases es <;> first | rfl | exact ff h5)
    exact ⟨a', ptOf a' rfl⟩
  | .fmt e, X, w, ck, ok, x, h => by
    obtain ⟨v, p, rfl, h1⟩ := i_fmt h
    have a' : PE X (.FormattedValue v (-1) none p) (liftE E w (ev CF gl (.fmt e))) := peI (pe_fmt (s_e e ok h1).1) fun _ _ _ => l_fmt
    exact ⟨a', ptOf a' rfl⟩
  | .fstr es, X, w, ck, ok, x, h => by
    obtain ⟨v1, v2, vs, p, rfl, h1⟩ := i_fstr h
    obtain ⟨ts, j, k⟩ := s_ef es ok h1
    have a' : PE X (.JoinedStr (v1 :: v2 :: vs) p) (liftE E w (ev CF gl (.fstr es))) := peI (pe_joined j) fun σ H Q h => by
      obtain ⟨s, g, q, x, hs, hg, h, kq, kx⟩ := h
      exact k Str.empty σ H (fun out H1 => Q (.str out) H1) s g _ x hs hg h (fun w g1 v H1 hg1 r f1 h1 y ey => by subst ey; rw [RV] at r; exact kq _ g1 _ H1 hg1 rv_str f1 h1) kx
    exact ⟨a', ptOf a' rfl⟩
  | .nev, X, w, ck, ok, x, h => by
    have a' : PE X x (liftE E w (ev CF gl .nev)) := ⟨fun pins s σ H Q I h => by obtain ⟨_, _, _, _, _, _, h, _⟩ := h; exact h.elim⟩
    exact ⟨a', ptOf a' (i_nev h).1⟩
  | .ccall c f m es, X, w, ck, ok, x, h => by
    obtain ⟨y, q, apos, v, vs, p, oc, rfl, h1, h2, h3, h4, h5, h6, h7, hh⟩ := i_ccall h
    subst h2 h3
    have a' : PE X (.Call (.Attribute (.Name oc.name q) "__init__" apos) (v :: vs) [] p) (liftE E w (ev CF gl (.ccall c oc.init m es))) := s_ccall ok hh h1 h4 h5 h7 (s_es es ok h6) (chks_plain h6)
    exact ⟨a', ptOf a' rfl⟩
  | .isc a y row, X, w, ck, ok, x, h => by
    obtain ⟨q, l, q', p, rfl, h1, h2, h3, h4⟩ := i_isc h
    have hp : plainE l = true := by cases l <;> first | rfl | exact (chk_nostar _ _ _ h4).elim
    have a' : PE X (.Call (.Name "isinstance" q) [l, .Name y q'] [] p) (liftE E w (ev CF gl (.isc a y row))) := s_isc ok h1 h2 h3 hp (s_e a ok h4).1
    exact ⟨a', ptOf a' rfl⟩
theorem s_ef : ∀ (es : Es3) {X : Cx} {w : WX} {ck : Ck}, CkOk ck X E w CF gl → ∀ {vs : List Expr}, chkf es ck vs = true → ∃ ts, PJ X vs ts ∧ ∀ (acc : Str) (σ : L2.St) (H : Hp) (Q : Str → Hp → Prop) (s : Sx) (g : G) (q : VK3) (x : XK3), SR E.K H s σ → GR E g H → evf CF gl es acc x s g q →
    (∀ w g1 v H1, GR E g1 H1 → RV E.K H1 w v → FK g H g1 H1 → q w g1 → ∀ y, w = .str y → Q y H1) → KX E g H x (fun cls d H' => w cls d σ H') → tJs ts acc σ H Q
  | .nil, X, w, ck, ok, [], h => ⟨[], .nil, fun acc σ H Q s g q x hs hg h kq kx => kq _ g (.str acc) H hg rv_str FK.refl h acc rfl⟩
  | .nil, X, w, ck, ok, _ :: _, h => ff h
  | .cons e es, X, w, ck, ok, [], h => ff h
  | .cons e es, X, w, ck, ok, v :: vs, h => by
    obtain ⟨h1, h2⟩ := bool_and h
    obtain ⟨ts, j, k⟩ := s_ef es ok h2
    refine ⟨_, .cons (s_e e ok h1).1 j, fun acc σ H Q s g q x hs hg h kq kx => ?_⟩
    refine ⟨s, g, _, x, hs, hg, h, fun a g1 v H1 hg1 ra f1 h1 => ?_, kx⟩
    obtain ⟨y, rfl, hy, h1⟩ := h1
    rw [RV] at ra
    exact ⟨y, ra, hy, k _ σ H1 Q s g1 q x (hs.keep (f1.tk hg)) hg1 h1 (fun w g2 v H2 a b c d => kq w g2 v H2 a b (f1.trans c) d) (kx.at f1)⟩
theorem s_es : ∀ (es : Es3) {X : Cx} {w : WX} {ck : Ck}, CkOk ck X E w CF gl → ∀ {vs : List Expr}, chks es ck vs = true → PA X vs (liftA E w (evs CF gl es))
  | .nil, X, w, ck, ok, [], h => paI pa_nil fun _ _ _ => l_nil
  | .nil, X, w, ck, ok, _ :: _, h => ff h
  | .cons e es, X, w, ck, ok, [], h => ff h
  | .cons e es, X, w, ck, ok, v :: vs, h => by
    obtain ⟨h12, h3⟩ := bool_and h
    obtain ⟨h1, h2⟩ := bool_and h12
    exact paI (pa_cons (s_e e ok h2).1 (s_es es ok h3) (star_plain h1)) fun _ _ _ => l_cons
theorem s_and : ∀ (es : Es3) {X : Cx} {w : WX} {ck : Ck}, CkOk ck X E w CF gl → ∀ {vs : List Expr}, chks es ck vs = true → ∀ p, PE X (.BoolOp .And vs p) (liftE E w (evAnd CF gl es)) ∧ PW X (.BoolOp .And vs p) (liftT E w (bT (evAnd CF gl es)))
  | .nil, X, w, ck, ok, vs, h, p => ⟨⟨fun _ _ _ _ _ _ q => by obtain ⟨_, _, _, _, _, _, q, _⟩ := q; exact q.elim⟩, ⟨fun _ _ _ _ _ _ _ q => by obtain ⟨_, _, _, _, _, _, q, _⟩ := q; exact q.elim⟩⟩
  | .cons e es, X, w, ck, ok, [], h, p => ff h
  | .cons e .nil, X, w, ck, ok, v :: vs, h, p => by
    obtain ⟨h12, h3⟩ := bool_and h
    obtain ⟨h1, h2⟩ := bool_and h12
    cases vs with
    | nil => exact ⟨pe_one (s_e e ok h2).1, pw_and1 (s_e e ok h2).2⟩
    | cons a b => exact ff h3
  | .cons e (.cons e' es), X, w, ck, ok, [v], h, p => by
    obtain ⟨h12, h3⟩ := bool_and h
    exact ff h3
  | .cons e (.cons e' es), X, w, ck, ok, v :: v' :: vs, h, p => by
    obtain ⟨h12, h3⟩ := bool_and h
    obtain ⟨h1, h2⟩ := bool_and h12
    obtain ⟨a, b⟩ := s_and (.cons e' es) ok h3 p
    exact ⟨peI (pe_and (s_e e ok h2).1 a) fun _ _ _ => l_andV, pwI (pw_and (s_e e ok h2).2 b) fun _ _ _ => l_andT⟩
theorem s_or : ∀ (es : Es3) {X : Cx} {w : WX} {ck : Ck}, CkOk ck X E w CF gl → ∀ {vs : List Expr}, chks es ck vs = true → ∀ p, PE X (.BoolOp .Or vs p) (liftE E w (evOr CF gl es)) ∧ PW X (.BoolOp .Or vs p) (liftT E w (bT (evOr CF gl es)))
  | .nil, X, w, ck, ok, vs, h, p => ⟨⟨fun _ _ _ _ _ _ q => by obtain ⟨_, _, _, _, _, _, q, _⟩ := q; exact q.elim⟩, ⟨fun _ _ _ _ _ _ _ q => by obtain ⟨_, _, _, _, _, _, q, _⟩ := q; exact q.elim⟩⟩
  | .cons e es, X, w, ck, ok, [], h, p => ff h
  | .cons e .nil, X, w, ck, ok, v :: vs, h, p => by
    obtain ⟨h12, h3⟩ := bool_and h
    obtain ⟨h1, h2⟩ := bool_and h12
    cases vs with
    | nil => exact ⟨pe_one (s_e e ok h2).1, pw_or1 (s_e e ok h2).2⟩
    | cons a b => exact ff h3
  | .cons e (.cons e' es), X, w, ck, ok, [v], h, p => by
    obtain ⟨h12, h3⟩ := bool_and h
    exact ff h3
  | .cons e (.cons e' es), X, w, ck, ok, v :: v' :: vs, h, p => by
    obtain ⟨h12, h3⟩ := bool_and h
    obtain ⟨h1, h2⟩ := bool_and h12
    obtain ⟨a, b⟩ := s_or (.cons e' es) ok h3 p
    exact ⟨peI (pe_or (s_e e ok h2).1 a) fun _ _ _ => l_orV, pwI (pw_or (s_e e ok h2).2 b) fun _ _ _ => l_orT⟩
theorem s_o : ∀ (o : O3) {X : Cx} {w : WX} {ck : Ck}, CkOk ck X E w CF gl → ∀ {x : Option Expr}, chko o ck x = true → PO X x (liftO E w (evo CF gl o))
  | .none, X, w, ck, ok, none, h => po_I po_none fun σ H Q q => by
    obtain ⟨s, g, k, x, hs, hg, h, kq, kx⟩ := q
    exact kq none g H hg FK.refl h
  | .none, X, w, ck, ok, some _, h => ff h
  | .some e, X, w, ck, ok, none, h => ff h
  | .some e, X, w, ck, ok, some v, h => po_I (po_some (s_e e ok h).1) fun σ H Q q => by
    obtain ⟨s, g, k, x, hs, hg, h, kq, kx⟩ := q
    refine ⟨s, g, _, x, hs, hg, h, fun a g1 v H1 hg1 ra f1 h1 => ?_, kx⟩
    obtain ⟨i, rfl, h1⟩ := h1
    rw [RV] at ra
    exact ⟨i, ra, kq (some i) g1 H1 hg1 f1 h1⟩
theorem s_c : ∀ (o : O3) {X : Cx} {w : WX} {ck : Ck}, CkOk ck X E w CF gl → ∀ {x : List Expr}, chkc o ck x = true → PTs X x (liftT E w (evc CF gl o))
  | .none, X, w, ck, ok, [], h => pts_I pts_nil fun σ H Q q => by
    obtain ⟨s, g, k, x, hs, hg, h, kq, kx⟩ := q
    exact kq true g H hg FK.refl h
  | .none, X, w, ck, ok, _ :: _, h => ff h
  | .some e, X, w, ck, ok, [], h => ff h
  | .some e, X, w, ck, ok, [v], h => pts_one (s_e e ok h).2
  | .some e, X, w, ck, ok, _ :: _ :: _, h => ff h
theorem s_i : ∀ (it : I3) {X : Cx} {w : WX} {ck : Ck}, CkOk ck X E w CF gl → ∀ (tg : Expr) {x : Expr}, chki it ck (isTupE tg) x = true → PI X tg x (liftI E w (evi CF gl it))
  | .seq e, X, w, ck, ok, tg, x, h => by
    have h' : chk e ck x = true := by cases x <;> exact h
    refine piI (pi_sq (s_e e ok h').1) fun σ H R q => ?_
    obtain ⟨s, g, r, x, hs, hg, h, kr, kx⟩ := q
    refine ⟨s, g, _, x, hs, hg, h, fun a g1 v H1 hg1 ra f1 h1 => ?_, kx⟩
    cases a with
    | ref p =>
      rw [RV] at ra; subst ra
      obtain ⟨xs, e1, h1⟩ := lstAt_inv h1
      obtain ⟨ys, q1, r1⟩ := hg1 _ _ e1
      exact .inl ⟨p, rfl, ⟨ys, SqL.of q1⟩, kr xs _ g1 _ H1 hg1 f1 (it_list ok.hK) h1⟩
    | tup xs =>
      obtain ⟨p, ys, rfl, ht, hr⟩ := rv_tup_inv ra
      exact .inr ⟨p, rfl, ⟨ys, SqT.of ht⟩, kr xs _ g1 _ H1 hg1 f1 (it_tup hg1 ht hr) h1⟩
    | scr xs =>
      obtain ⟨p, ys, rfl, ht, hr⟩ := rv_scr_inv ra
      rw [ok.hK]
      exact .inl ⟨p, rfl, ⟨ys, ht.sq⟩, kr xs _ g1 _ H1 hg1 f1 (it_scr hg1 ht hr) h1⟩
    | lv xs =>
      obtain ⟨p, ys, rfl, ht, hr⟩ := rv_lv_inv ra
      rw [ok.hK]
      exact .inl ⟨p, rfl, ⟨ys, ht.sq⟩, kr xs _ g1 _ H1 hg1 f1 (it_scr hg1 ht hr) h1⟩
    | _ => exact h1.elim
  | .rng1 a, X, w, ck, ok, tg, x, h => by
    obtain ⟨q, v, p, rfl, h1, h2, h3, _⟩ := i_1 (.inl ⟨rfl, rfl⟩) h
    obtain ⟨g1, g2⟩ := ok.gl' h1
    refine piI (pi_range1 g1 (ok.blt _ (by decide +kernel)) (pa_cons (s_e a ok h2).1 pa_nil (star_plain h3)) (star_plain h3)) fun σ H R q => ?_
    obtain ⟨s, g, r, x, hs, hg, h, kr, kx⟩ := q
    refine ⟨s, g, _, x, hs, hg, h, fun a g1 v H1 hg1 ra f1 h1 => ?_, kx⟩
    obtain ⟨j, rfl, hj, h1⟩ := h1
    rw [RV] at ra
    subst ra
    exact ⟨j, rfl, hj.1, hj.2, kr _ _ g1 _ H1 hg1 f1 it_rng h1⟩
  | .rng2 a b, X, w, ck, ok, tg, x, h => by
    obtain ⟨q, v, u, p, rfl, h1, h2, h3, h4, h5, _⟩ := i_2 (.inl ⟨rfl, rfl⟩) h
    obtain ⟨g1, g2⟩ := ok.gl' h1
    refine piI (pi_range2 g1 (ok.blt _ (by decide +kernel)) (pa_cons (s_e a ok h2).1 (pa_cons (s_e b ok h3).1 pa_nil (star_plain h5)) (star_plain h4)) ((star_plain h4).trans (congrArg _ (star_plain h5))) (star_plain h5)) fun σ H R q => ?_
    obtain ⟨s, g, r, x, hs, hg, h, kr, kx⟩ := q
    refine ⟨s, g, _, x, hs, hg, h, fun a g1 v H1 hg1 ra f1 h1 => ?_, kx⟩
    refine ⟨s, g1, _, x, hs.keep (f1.tk hg), hg1, h1, fun b g2 u H2 hg2 rb f2 h2 => ?_, kx.at f1⟩
    obtain ⟨i, j, rfl, rfl, hi, hj, h2⟩ := h2
    rw [RV] at ra rb
    subst ra rb
    exact ⟨i, j, rfl, ⟨hi.1, hi.2, hj.1, hj.2⟩, kr _ _ g2 _ H2 hg2 (f1.trans f2) it_rng h2⟩
  | .rng3 a b c, X, w, ck, ok, tg, x, h => by
    obtain ⟨q, v, u, y, p, rfl, h1, h2, h3, h4, h5, h6, h7⟩ := i_3 h
    obtain ⟨g1, g2⟩ := ok.gl' h1
    refine piI (pi_range3 g1 (ok.blt _ (by decide +kernel)) (pa_cons (s_e a ok h2).1 (pa_cons (s_e b ok h3).1 (pa_cons (s_e c ok h4).1 pa_nil (star_plain h7)) (star_plain h6)) (star_plain h5)) (star_plain h5) (star_any fun v hv => by rcases List.mem_cons.mp hv with rfl | hv; exact h6; rw [List.mem_singleton.mp hv]; exact h7)) fun σ H R q => ?_
    obtain ⟨s, g, r, x, hs, hg, h, kr, kx⟩ := q
    refine ⟨s, g, _, x, hs, hg, h, fun a g1 v H1 hg1 ra f1 h1 => ?_, kx⟩
    refine ⟨s, g1, _, x, hs.keep (f1.tk hg), hg1, h1, fun b g2 u H2 hg2 rb f2 h2 => ?_, kx.at f1⟩
    refine ⟨s, g2, _, x, (hs.keep (f1.tk hg)).keep (f2.tk hg1), hg2, h2, fun c g3 y H3 hg3 rc f3 h3 => ?_, (kx.at f1).at f2⟩
    obtain ⟨i, j, rfl, rfl, rfl, hi, hj, h3⟩ := h3
    rw [RV] at ra rb rc
    subst ra rb rc
    exact ⟨i, j, -1, _, rfl, RgC.neg hi.1 hi.2 hj.1 hj.2, kr _ _ g3 _ H3 hg3 ((f1.trans f2).trans f3) it_rngD h3⟩
  | .str e, X, w, ck, ok, tg, x, h => by
    have h' : chk e ck x = true := by cases x <;> exact h
    refine piI (pi_str (s_e e ok h').1) fun σ H R q => ?_
    obtain ⟨s, g, r, x, hs, hg, h, kr, kx⟩ := q
    refine ⟨s, g, _, x, hs, hg, h, fun a g1 v H1 hg1 ra f1 h1 => ?_, kx⟩
    obtain ⟨z, rfl, h1⟩ := h1
    rw [RV] at ra
    exact ⟨z, ra, kr _ _ g1 _ H1 hg1 f1 it_str h1⟩
  | .rev e, X, w, ck, ok, tg, x, h => by
    obtain ⟨q, v, p, rfl, h1, h2, h3, _⟩ := i_1 (.inr (.inl ⟨rfl, rfl⟩)) h
    obtain ⟨g1, g2⟩ := ok.gl' h1
    refine piI (RT.pi_revA g1 (ok.blt _ (by decide +kernel)) (s_e e ok h2).1 (star_plain h3)) fun σ H R q => ?_
    obtain ⟨s, g, r, x, hs, hg, h, kr, kx⟩ := q
    refine ⟨s, g, _, x, hs, hg, h, fun a g1 v H1 hg1 ra f1 h1 => ?_, kx⟩
    cases a with
    | ref p =>
      rw [RV] at ra; subst ra
      obtain ⟨xs, e1, h1⟩ := lstAt_inv h1
      obtain ⟨ys, q1, r1⟩ := hg1 _ _ e1
      refine ⟨p, ys, rfl, .inl ⟨SqL.of q1, ?_⟩⟩
      rw [r1.length]
      exact kr _ _ g1 _ H1 hg1 f1 it_revL h1
    | tup xs =>
      obtain ⟨p, ys, rfl, ht, hr⟩ := rv_tup_inv ra
      refine ⟨p, ys, rfl, .inr ⟨SqT.of ht, ?_⟩⟩
      rw [hr.length]
      exact kr _ _ g1 _ H1 hg1 f1 (it_revT hg1 ht hr) h1
    | scr xs =>
      obtain ⟨p, ys, rfl, ht, hr⟩ := rv_scr_inv ra
      rw [ok.hK]
      refine ⟨p, ys, rfl, .inl ⟨ht.sq, ?_⟩⟩
      rw [hr.length]
      exact kr _ _ g1 _ H1 hg1 f1 (it_revS hg1 ht hr) h1
    | lv xs =>
      obtain ⟨p, ys, rfl, ht, hr⟩ := rv_lv_inv ra
      rw [ok.hK]
      refine ⟨p, ys, rfl, .inl ⟨ht.sq, ?_⟩⟩
      rw [hr.length]
      exact kr _ _ g1 _ H1 hg1 f1 (it_revS hg1 ht hr) h1
    | _ => exact h1.elim
  | .enum e, X, w, ck, ok, tg, x, h => by
    obtain ⟨q, v, p, rfl, h1, h2, h3, h4⟩ := i_1 (.inr (.inr ⟨rfl, rfl⟩)) h
    obtain ⟨es, k, pt, rfl⟩ := isTup_inv (h4 rfl)
    obtain ⟨g1, g2⟩ := ok.gl' h1
    refine piI (pi_enum g1 (ok.blt _ (by decide +kernel)) (pa_cons (s_e e ok h2).1 pa_nil (star_plain h3)) (star_plain h3)) fun σ H R q => ?_
    obtain ⟨s, g, r, x, hs, hg, h, kr, kx⟩ := q
    refine ⟨s, g, _, x, hs, hg, h, fun a g1 v H1 hg1 ra f1 h1 => ?_, kx⟩
    cases a with
    | ref p =>
      rw [RV] at ra; subst ra
      obtain ⟨xs, e1, h1⟩ := lstAt_inv h1
      obtain ⟨ys, q1, r1⟩ := hg1 _ _ e1
      exact ⟨p, ys, rfl, SqL.of q1, kr _ _ g1 _ H1 hg1 f1 (it_enum (ok := fun g' => g' p = some (.lst xs)) fun g3 H3 hg3 f3 ok3 => let ⟨zs, z1, z2⟩ := hg3 _ _ ok3; ⟨zs, SqL.of z1, z2⟩) h1⟩
    | scr xs =>
      obtain ⟨p, ys, rfl, ht, hr⟩ := rv_scr_inv ra
      rw [ok.hK]
      exact ⟨p, ys, rfl, ht.sq, kr _ _ g1 _ H1 hg1 f1 (it_enum fun g3 H3 hg3 f3 ok3 => ⟨ys, ((f3.tk hg1).frl ht).sq, hr.keep (f3.tk hg1)⟩) h1⟩
    | lv xs =>
      obtain ⟨p, ys, rfl, ht, hr⟩ := rv_lv_inv ra
      rw [ok.hK]
      exact ⟨p, ys, rfl, ht.sq, kr _ _ g1 _ H1 hg1 f1 (it_enum fun g3 H3 hg3 f3 ok3 => ⟨ys, ((f3.tk hg1).frl ht).sq, hr.keep (f3.tk hg1)⟩) h1⟩
    | _ => exact h1.elim
  | .keys e, X, w, ck, ok, tg, x, h => by
    have h' : chk e ck x = true := by cases x <;> exact h
    exact piI (pi_keys (pe_lk (s_e e ok h').1)) fun _ _ _ => l_keys
  | .items e, X, w, ck, ok, tg, x, h => by
    obtain ⟨l, q, p, rfl, h1, h2, h3, h4⟩ := i_items h
    obtain ⟨es, k, pt, rfl⟩ := isTup_inv h1
    exact piI (pi_items (pe_lk (s_e e ok h4).1) (base_plain h2) h3) fun _ _ _ => l_items
  | .zip a b, X, w, ck, ok, tg, x, h => by
    obtain ⟨q, v, u, p, rfl, h1, h2, h3, h4, h5, h6⟩ := i_2 (.inr ⟨rfl, rfl⟩) h
    obtain ⟨es, k, pt, rfl⟩ := isTup_inv (h6 rfl)
    obtain ⟨g1, g2⟩ := ok.gl' h1
    refine piI (pi_zip g1 (ok.blt _ (by decide +kernel)) (pa_cons (s_e a ok h2).1 (pa_cons (s_e b ok h3).1 pa_nil (star_plain h5)) (star_plain h4)) (star_plain h4) (star_any fun z hz => by rw [List.mem_singleton.mp hz]; exact h5)) fun σ H R q => ?_
    obtain ⟨s, g, r, x, hs, hg, h, kr, kx⟩ := q
    refine ⟨s, g, _, x, hs, hg, h, fun a g1 v H1 hg1 ra f1 h1 => ?_, kx⟩
    refine ⟨s, g1, _, x, hs.keep (f1.tk hg), hg1, h1, fun b g2 u H2 hg2 rb f2 h2 => ?_, kx.at f1⟩
    have ra2 := ra.keep (f2.tk hg1)
    have rd : ∀ {a : W} {v : V} {r : List W → (G → Prop) → G → Prop}, RV E.K H2 a v → walkL a g2 r → ∃ p xs ys ok, v = .ref p ∧ SqL X.K H2 p ys ∧ RVs E.K H2 xs ys ∧ r xs ok g2 ∧ ∀ g3 H3, GR E g3 H3 → FK g2 H2 g3 H3 → ok g3 → ∃ zs, SqL X.K H3 p zs ∧ RVs E.K H3 xs zs := by
      intro a v r ra h
      cases a with
      | ref p =>
        rw [RV] at ra; subst ra
        obtain ⟨xs, e1, h⟩ := lstAt_inv h
        obtain ⟨ys, q1, r1⟩ := hg2 _ _ e1
        exact ⟨p, xs, ys, fun g' => g' p = some (.lst xs), rfl, SqL.of q1, r1, h, fun g3 H3 hg3 f3 ok3 => let ⟨zs, z1, z2⟩ := hg3 _ _ ok3; ⟨zs, SqL.of z1, z2⟩⟩
      | scr xs =>
        obtain ⟨p, ys, rfl, ht, hr⟩ := rv_scr_inv ra
        rw [ok.hK]
        exact ⟨p, xs, ys, _, rfl, ht.sq, hr, h, fun g3 H3 hg3 f3 ok3 => ⟨ys, ((f3.tk hg2).frl ht).sq, hr.keep (f3.tk hg2)⟩⟩
      | lv xs =>
        obtain ⟨p, ys, rfl, ht, hr⟩ := rv_lv_inv ra
        rw [ok.hK]
        exact ⟨p, xs, ys, _, rfl, ht.sq, hr, h, fun g3 H3 hg3 f3 ok3 => ⟨ys, ((f3.tk hg2).frl ht).sq, hr.keep (f3.tk hg2)⟩⟩
      | _ => exact h.elim
    obtain ⟨p1, xs, ys, k1, rfl, s1, r1, h2, d1⟩ := rd ra2 h2
    obtain ⟨p2, xs2, ys2, k2, rfl, s2, r2, h2, d2⟩ := rd rb h2
    exact ⟨p1, p2, ys, ys2, rfl, s1, s2, kr _ _ g2 _ H2 hg2 (f1.trans f2) (it_zip fun g3 H3 hg3 f3 ok3 => ⟨d1 g3 H3 hg3 f3 ok3.1, d2 g3 H3 hg3 f3 ok3.2⟩) h2⟩
end
end
end L3
set_option maxRecDepth 100000
set_option maxHeartbeats 16000000
namespace L3
open PySem PySem.Spec L2
section
variable {X : Cx} {E : Env3} {w : WX} {CF : CF3} {gl : Gs} {ck : Ck}
theorem l_ret {te : TE3} {D : Ends} {σ : L2.St} {H : Hp} (h : liftS E w (fun D s g => te (D.xk s) s g D.rt) D σ H) : tRet (liftE E w te) D σ H := by
  obtain ⟨s, g, d, hs, hg, h, kd⟩ := h
  exact ⟨s, g, _, _, hs, hg, h, kd.rt, kd.xk hs hg⟩
theorem l_drop {te : TE3} {D : Ends} {σ : L2.St} {H : Hp} (h : liftS E w (fun D s g => te (D.xk s) s g fun _ g1 => D.nx s g1) D σ H) : tDrop (liftE E w te) D σ H := by
  obtain ⟨s, g, d, hs, hg, h, kd⟩ := h
  exact ⟨s, g, _, _, hs, hg, h, fun a g1 v H1 hg1 ra f1 h1 => kd.nx s g1 σ H1 (hs.keep (f1.tk hg)) hg1 f1 h1, kd.xk hs hg⟩
theorem l_set {te : TE3} {i : Nat} {D : Ends} {σ : L2.St} {H : Hp} (h : liftS E w (fun D s g => te (D.xk s) s g fun a g1 => D.nx (s.set i (some a)) g1) D σ H) : tAsg (liftE E w te) (gName i) D σ H := by
  obtain ⟨s, g, d, hs, hg, h, kd⟩ := h
  exact ⟨s, g, _, _, hs, hg, h, fun a g1 v H1 hg1 ra f1 h1 => kd.nx _ g1 _ H1 ((hs.keep (f1.tk hg)).set ra i) hg1 f1 h1, kd.xk hs hg⟩
theorem l_setT {te : TE3} {is : List Nat} {D : Ends} {σ : L2.St} {H : Hp} (h : liftS E w (fun D s g => te (D.xk s) s g fun a g1 => asg (.tup is) a s g1 fun s2 => D.nx s2 g1) D σ H) : tAsg (liftE E w te) (gT E.K (.tup is)) D σ H := by
  obtain ⟨s, g, d, hs, hg, h, kd⟩ := h
  exact ⟨s, g, _, _, hs, hg, h, fun a g1 v H1 hg1 ra f1 h1 => l_asg ra (hs.keep (f1.tk hg)) hg1 h1 fun s2 σ2 r2 _ k => kd.nx s2 g1 σ2 H1 r2 hg1 f1 k, kd.xk hs hg⟩
theorem l_par {ta tb : TE3} {i j : Nat} {D : Ends} {σ : L2.St} {H : Hp} (h : liftS E w (fun D s g => ta (D.xk s) s g fun a g1 => tb (D.xk s) s g1 fun b g2 => D.nx ((s.set i (some a)).set j (some b)) g2) D σ H) :
    tPar i j (tCons (liftE E w ta) (tCons (liftE E w tb) tNil)) D σ H := by
  obtain ⟨s, g, d, hs, hg, h, kd⟩ := h
  have kx := kd.xk hs hg
  refine ⟨s, g, _, _, hs, hg, h, fun a g1 v H1 hg1 ra f1 h1 => ?_, kx⟩
  have t1 := f1.tk hg
  refine ⟨s, g1, _, _, hs.keep t1, hg1, h1, fun b g2 u H2 hg2 rb f2 h2 => ?_, kx.at f1⟩
  have t2 := f2.tk hg1
  exact ⟨v, u, rfl, kd.nx _ g2 _ H2 ((((hs.keep t1).keep t2).set (ra.keep t2) i).set rb j) hg2 (f1.trans f2) h2⟩
theorem l_put3 {te to ti : TE3} {D : Ends} {σ : L2.St} {H : Hp} (h : liftS E w (fun D s g => te (D.xk s) s g fun v g1 => to (D.xk s) s g1 fun a g2 => ti (D.xk s) s g2 fun y g3 => putS a y v g3 fun g4 => D.nx s g4) D σ H) :
    tAsg (liftE E w te) (gSub (liftE E w to) (liftE E w ti) (liftPut (E := E) putS)) D σ H := by
  obtain ⟨s, g, d, hs, hg, h, kd⟩ := h
  have kx := kd.xk hs hg
  refine ⟨s, g, _, _, hs, hg, h, fun c g1 v H1 hg1 rc f1 h1 => ?_, kx⟩
  have t1 := f1.tk hg
  refine ⟨s, g1, _, _, hs.keep t1, hg1, h1, fun a g2 u H2 hg2 ra f2 h2 => ?_, kx.at f1⟩
  have t2 := f2.tk hg1
  refine ⟨s, g2, _, _, (hs.keep t1).keep t2, hg2, h2, fun b g3 u3 H3 hg3 rb f3 h3 => ?_, kx.at (f1.trans f2)⟩
  have t3 := f3.tk hg2
  refine ⟨a, b, c, g3, _, ra.keep t3, rb, (rc.keep t2).keep t3, hg3, h3, fun g4 H4 hg4 f4 h4 => ?_⟩
  exact kd.nx s g4 σ H4 ((((hs.keep t1).keep t2).keep t3).keep (f4.tk hg3)) hg4 (((f1.trans f2).trans f3).trans f4) h4
theorem l_if {tc : TT3} {ta tb : TS3} {D : Ends} {σ : L2.St} {H : Hp} (h : liftS E w (fun D s g => tc (D.xk s) s g fun k g1 => if k = true then ta D s g1 else tb D s g1) D σ H) :
    tIfS (liftT E w tc) (liftS E w ta) (liftS E w tb) D σ H := by
  obtain ⟨s, g, d, hs, hg, h, kd⟩ := h
  refine ⟨s, g, _, _, hs, hg, h, fun b g1 H1 hg1 f1 h1 => ?_, kd.xk hs hg⟩
  show if b = true then _ else _
  replace h1 : if b = true then _ else _ := h1
  by_cases e : b = true
  · rw [if_pos e] at h1 ⊢
    exact ⟨s, g1, d, hs.keep (f1.tk hg), hg1, h1, kd.at f1⟩
  · rw [if_neg e] at h1 ⊢
    exact ⟨s, g1, d, hs.keep (f1.tk hg), hg1, h1, kd.at f1⟩
theorem l_seq {ta tb : TS3} {D : Ends} {σ : L2.St} {H : Hp} (h : liftS E w (fun D s g => ta { D with nx := tb D } s g) D σ H) : tSeq (liftS E w ta) (liftS E w tb) D σ H := by
  obtain ⟨s, g, d, hs, hg, h, kd⟩ := h
  exact ⟨s, g, _, hs, hg, h, ⟨fun s' g' σ' H' r1 r2 f n => ⟨s', g', d, r1, r2, n, kd.at f⟩, kd.rt, kd.bk, kd.ct, kd.ex⟩⟩
theorem l_nx {D : Ends} {σ : L2.St} {H : Hp} (h : liftS E w (fun D s g => D.nx s g) D σ H) : tNext D σ H := by
  obtain ⟨s, g, d, hs, hg, h, kd⟩ := h
  exact kd.nx s g σ H hs hg FK.refl h
theorem l_while {tc : TT3} {tb : TS3} {D : Ends} {σ : L2.St} {H : Hp}
    (h : liftS E w (fun D s g => ∃ M : Nat → Sx → G → Prop, (∃ m, M m s g) ∧ ∀ m s g, M m s g → tc (D.xk s) s g fun b g1 =>
      if b = true then tb { D with nx := fun s' g' => ∃ m', m' < m ∧ M m' s' g', ct := fun s' g' => ∃ m', m' < m ∧ M m' s' g', bk := D.nx } s g1 else D.nx s g1) D σ H) :
    tWhile (liftT E w tc) (liftS E w tb) D σ H := by
  obtain ⟨s, g, d, hs, hg, ⟨M, ⟨m0, h0⟩, h⟩, kd⟩ := h
  refine ⟨fun m σ' H' => ∃ s' g', SR E.K H' s' σ' ∧ GR E g' H' ∧ FK g H g' H' ∧ M m s' g', ⟨m0, s, g, hs, hg, FK.refl, h0⟩, ?_⟩
  rintro m σ1 H1 ⟨s1, g1, hs1, hg1, f1, hm⟩
  have kd1 := kd.at f1
  refine ⟨s1, g1, _, _, hs1, hg1, h m s1 g1 hm, fun b g2 H2 hg2 f2 h2 => ?_, kd1.xk hs1 hg1⟩
  show if b = true then _ else _
  replace h2 : if b = true then _ else _ := h2
  have hs2 := hs1.keep (f2.tk hg1)
  by_cases e : b = true
  · rw [if_pos e] at h2 ⊢
    refine ⟨fun σ' H' => ∃ m', m' < m ∧ ∃ s' g', SR E.K H' s' σ' ∧ GR E g' H' ∧ FK g H g' H' ∧ M m' s' g', fun σ' H' z => z, s1, g2, _, hs2, hg2, h2, ⟨?_, ?_, ?_, ?_, ?_⟩⟩
    · rintro s' g' σ' H' r1 r2 f ⟨m', hl, n⟩
      exact ⟨m', hl, s', g', r1, r2, (f1.trans f2).trans f, n⟩
    · exact (kd1.at f2).rt
    · exact (kd1.at f2).nx
    · rintro s' g' σ' H' r1 r2 f ⟨m', hl, n⟩
      exact ⟨m', hl, s', g', r1, r2, (f1.trans f2).trans f, n⟩
    · exact (kd1.at f2).ex
  · rw [if_neg e] at h2 ⊢
    exact (kd1.at f2).nx s1 g2 σ1 H2 hs2 hg2 FK.refl h2
theorem l_for {tg : T3} {ti : TI3} {tb : TS3} {D : Ends} {σ : L2.St} {H : Hp} (h : liftS E w (fun D s g => ti (D.xk s) s g fun items ok g1 => forI tg ok tb D items s g1) D σ H) :
    tFor (liftI E w ti) (gT E.K tg) (liftS E w tb) D σ H := by
  obtain ⟨s, g, d, hs, hg, h, kd⟩ := h
  refine ⟨s, g, _, _, hs, hg, h, fun items ok g1 J H1 hg1 f1 hit hl => ?_, kd.xk hs hg⟩
  have kd1 := kd.at f1
  refine ⟨fun i n σ' H' => n = items.length - i ∧ i ≤ items.length ∧ ∃ s2 g2, SR E.K H' s2 σ' ∧ GR E g2 H' ∧ FK g1 H1 g2 H' ∧ forI tg ok tb d (items.drop i) s2 g2,
    ⟨items.length, by simp, Nat.zero_le _, s, g1, hs.keep (f1.tk hg), hg1, FK.refl, hl⟩, ?_⟩
  rintro i n σ2 H2 ⟨rfl, hi, s2, g2, hs2, hg2, f2, hl⟩
  cases hd : items.drop i with
  | nil =>
    rw [hd] at hl
    exact .inl ⟨(hit i g2 H2 hg2 f2 hl.1).2 (List.drop_eq_nil_iff.mp hd), (kd1.at f2).nx s2 g2 σ2 H2 hs2 hg2 FK.refl hl.2⟩
  | cons y ys =>
    rw [hd] at hl
    have hlt : i < items.length := by
      rcases Nat.lt_or_ge i items.length with z | z
      · exact z
      · rw [List.drop_eq_nil_of_le z] at hd; cases hd
    have ey : items[i]? = some y := by
      have := congrArg List.head? hd
      simpa [List.head?_drop] using this
    have eys : items.drop (i + 1) = ys := by
      have := congrArg List.tail hd
      simpa [List.tail_drop] using this
    obtain ⟨hok, hl⟩ := hl
    obtain ⟨hgo, hyl⟩ := (hit i g2 H2 hg2 f2 hok).1 y ey
    refine .inr ⟨hgo, fun σ' H' => ∃ m', m' < items.length - i ∧ (m' = items.length - (i + 1) ∧ i + 1 ≤ items.length ∧ ∃ s2 g2, SR E.K H' s2 σ' ∧ GR E g2 H' ∧ FK g1 H1 g2 H' ∧ forI tg ok tb d (items.drop (i + 1)) s2 g2),
      fun σ' H' z => z, fun v H3 hy => ?_⟩
    obtain ⟨rv, hg3, f3⟩ := hyl v H3 hy
    have kd3 := (kd1.at f2).at f3
    have nx : KN E g2 H3 (forI tg ok tb d ys) (fun σ' H' => ∃ m', m' < items.length - i ∧ (m' = items.length - (i + 1) ∧ i + 1 ≤ items.length ∧ ∃ s2 g2, SR E.K H' s2 σ' ∧ GR E g2 H' ∧ FK g1 H1 g2 H' ∧ forI tg ok tb d (items.drop (i + 1)) s2 g2)) :=
      fun s' g' σ' H' r1 r2 f n => ⟨_, by omega, rfl, hlt, s', g', r1, r2, (f2.trans f3).trans f, by rw [eys]; exact n⟩
    exact l_asg rv (hs2.keep (f3.tk hg2)) hg3 hl fun s4 σ4 hs4 st hk => ⟨s4, g2, _, hs4, hg3, hk, ⟨nx, kd3.rt, kd3.nx, nx, kd3.ex⟩⟩
theorem l_forK {tg : T3} {ti : TI3} {tb : TS3} {D : Ends} {σ : L2.St} {H : Hp} (h : liftS E w (fun D s g => ti (D.xk s) s g fun items ok g1 => forI tg ok tb (unD g D) items s g1) D σ H) :
    tUnl (tFor (liftI E w ti) (gT E.K tg) (liftS E w tb)) D σ H := by
  obtain ⟨s, g, d, hs, hg, h, kd⟩ := h
  exact l_for (D := unE H D) ⟨s, g, unD g d, hs, hg, h, un_kd hg kd⟩
theorem swaps_no {e : Expr} {l : Nat} {env : Env} (h : notComp e = true) (t : Option Expr) : swapsWith e t l env = pure false := by
  cases e <;> first | rfl | (simp [notComp] at h)
theorem swapsT {es : List Expr} {k : Nat} {p : Pos} {e : Expr} {l : Nat} {env : Env} : swapsWithSole [.Tuple es k p] e l env = pure false := by
  cases e <;> rfl
theorem swapsS {a b : Expr} {p : Pos} {e : Expr} {l : Nat} {env : Env} : swapsWithSole [.Subscript a b p] e l env = pure false := by
  cases e <;> rfl
theorem swappedT {es : List Expr} {k : Nat} {p : Pos} {e : Expr} {env : Env} (h : isTupE e = false) : swappedStores [.Tuple es k p] e env = pure none := by
  cases e <;> first | rfl | (simp [isTupE] at h)
theorem swappedP (ok : CkOk ck X E w CF gl) {x y : Str} {px py pt pt2 : Pos} {kt k2 : Nat} {a b : Expr} (pa : plainE a = true) (pb : plainE b = true) (h : swapOk ck x y px py a b = true) :
    swappedStores [.Tuple [.Name x px, .Name y py] kt pt] (.Tuple [a, b] k2 pt2) X.env = pure (some [x, y]) := by
  unfold swapOk at h
  obtain ⟨h, h6⟩ := bool_and h
  obtain ⟨h, h5⟩ := bool_and h
  obtain ⟨h, h4⟩ := bool_and h
  obtain ⟨h, h3⟩ := bool_and h
  obtain ⟨h1, h2⟩ := bool_and h
  have kx : X.env.kindOf x = some .local := by show X.env.scope.names.lookup x = _; rw [ok.sc]; exact of_decide_eq_true h2
  have ky : X.env.kindOf y = some .local := by show X.env.scope.names.lookup y = _; rw [ok.sc]; exact of_decide_eq_true h3
  have hne : x ≠ y := of_decide_eq_true h4
  have hb : X.env.blockKind = .function := by
    unfold Env.blockKind
    rw [ok.sc, ok.kind]
    rfl
  have hl : py.line = px.line := by simpa using h1
  have s1 : ∀ e, plainE e = true → (match e with | .Starred .. => true | _ => false) = false := fun e h => by cases e <;> first | rfl | (simp [plainE] at h)
  have hed : ([x, y].eraseDups.length) = 2 := by
    simp [List.eraseDups_cons, hne, Ne.symm hne]
  have n5 := bool_not h5
  have n6 := bool_not h6
  unfold swappedStores
  simp [hb, kx, ky, hl, s1 a pa, s1 b pb, Expr.pos, hne, Ne.symm hne, hed, n5, n6]
  rintro (h | h)
  · exfalso; cases a <;> first | exact ff h | (simp [plainE] at pa)
  · exfalso; cases b <;> first | exact ff h | (simp [plainE] at pb)
theorem asg_sub {o i : Expr} {p : Pos} {env : Env} (h : notSl i = true) (v : Value) : assign (.Subscript o i p) env v = (do
    let ov ← holding [v] (eval o env)
    let iv ← holding [v, ov] (eval i env)
    standAt p
    holding [v, ov, iv] (setItem ov iv v)
    release [v, ov, iv] []) := by
  cases i <;> first | rfl | (simp [notSl] at h)
variable {x : Stmt}
theorem j_set {i : Nat} {e : E3} (h : chkS (.set i e) ck x = true) : ∃ y q v p, x = .Assign [.Name y q] v p ∧ isLoc ck i y = true ∧ chk e ck v = true ∧ (notComp v = true ∨ isFrz e = false) := by
  cases x <;> first | exact ff h | skip
  rename_i ts v p
  match ts, h with
  | [], h => exact ff h
  | a :: _ :: _, h => cases a <;> exact ff h
  | [a], h =>
    cases a <;> first | exact ff h | skip
    obtain ⟨h, h3⟩ := bool_and h
    obtain ⟨h1, h2⟩ := bool_and h
    exact ⟨_, _, _, _, rfl, h1, h2, by simpa using h3⟩
theorem j_seta {o : E3} {f : Str} {e : E3} (h : chkS (.seta o f e) ck x = true) : ∃ l q v p, x = .Assign [.Attribute l f q] v p ∧ f ∈ ck.fl ∧ notComp v = true ∧ chk e ck v = true ∧ chk o ck l = true := by
  cases x <;> first | exact ff h | skip
  rename_i ts v p
  match ts, h with
  | [], h => exact ff h
  | a :: _ :: _, h => cases a <;> exact ff h
  | [a], h =>
    cases a <;> first | exact ff h | skip
    obtain ⟨h, h5⟩ := bool_and h
    obtain ⟨h, h4⟩ := bool_and h
    obtain ⟨h, h3⟩ := bool_and h
    obtain ⟨h1, h2⟩ := bool_and h
    have e := of_decide_eq_true h1
    subst e
    exact ⟨_, _, _, _, rfl, of_decide_eq_true h2, h3, h4, h5⟩
theorem j_setT {is : List Nat} {e : E3} (h : chkS (.setT is e) ck x = true) : ∃ es k q v p, x = .Assign [.Tuple es k q] v p ∧ locs ck is es = true ∧ chk e ck v = true ∧ isTupE v = false ∧ ck.hot = false := by
  cases x <;> first | exact ff h | skip
  rename_i ts v p
  match ts, h with
  | [], h => exact ff h
  | a :: _ :: _, h => cases a <;> exact ff h
  | [a], h =>
    cases a <;> first | exact ff h | skip
    obtain ⟨h, h9⟩ := bool_and h
    obtain ⟨h, h3⟩ := bool_and h
    obtain ⟨h1, h2⟩ := bool_and h
    exact ⟨_, _, _, _, _, rfl, h1, h2, bool_not h3, bool_not h9⟩
theorem j_par {i j : Nat} {a b : E3} (h : chkS (.par i j a b) ck x = true) : ∃ y py z pz k q u v k2 q2 p, x = .Assign [.Tuple [.Name y py, .Name z pz] k q] (.Tuple [u, v] k2 q2) p ∧ i ≠ j ∧ isLoc ck i y = true ∧ isLoc ck j z = true ∧
    chk a ck u = true ∧ chk b ck v = true ∧ plainE u = true ∧ plainE v = true ∧ swapOk ck y z py pz u v = true ∧ ck.hot = false := by
  have h' : (match parOf x with
    | some (x, px, y, py, u, v) => decide (i ≠ j) && isLoc ck i x && isLoc ck j y && chk a ck u && chk b ck v && plainE u && plainE v && swapOk ck x y px py u v && !ck.hot
    | none => false) = true := h
  cases e : parOf x with
  | none => rw [e] at h'; exact ff h'
  | some t =>
    obtain ⟨y, py, z, pz, u, v⟩ := t
    rw [e] at h'
    obtain ⟨k, q, k2, q2, p, rfl⟩ := parOf_inv e
    obtain ⟨h', h9⟩ := bool_and h'
    obtain ⟨h, h8⟩ := bool_and h'
    obtain ⟨h, h7⟩ := bool_and h
    obtain ⟨h, h6⟩ := bool_and h
    obtain ⟨h, h5⟩ := bool_and h
    obtain ⟨h, h4⟩ := bool_and h
    obtain ⟨h, h3⟩ := bool_and h
    obtain ⟨h1, h2⟩ := bool_and h
    exact ⟨_, _, _, _, _, _, _, _, _, _, _, rfl, of_decide_eq_true h1, h2, h3, h4, h5, h6, h7, h8, bool_not h9⟩
theorem j_put {o i e : E3} (h : chkS (.put o i e) ck x = true) : ∃ l r q v p, x = .Assign [.Subscript l r q] v p ∧ chk e ck v = true ∧ chk o ck l = true ∧ chk i ck r = true ∧ notSl r = true := by
  cases x <;> first | exact ff h | skip
  rename_i ts v p
  match ts, h with
  | [], h => exact ff h
  | a :: _ :: _, h => cases a <;> exact ff h
  | [a], h =>
    cases a <;> first | exact ff h | skip
    obtain ⟨h, h4⟩ := bool_and h
    obtain ⟨h, h3⟩ := bool_and h
    obtain ⟨h1, h2⟩ := bool_and h
    exact ⟨_, _, _, _, _, rfl, h1, h2, h3, h4⟩
theorem j_for {tg : T3} {it : I3} {b : Ss3} (h : chkS (.for_ tg it b) ck x = true) : ∃ t i y p, x = .For t i y [] p ∧ chkT ck tg t = true ∧ chki it ck (isTupE t) i = true ∧ chkSs b ck y = true ∧ ck.hot = false := by
  cases x <;> first | exact ff h | skip
  rename_i t i y e p
  match e, h with
  | [], h =>
    obtain ⟨h, h9⟩ := bool_and h
    obtain ⟨h, h3⟩ := bool_and h
    obtain ⟨h1, h2⟩ := bool_and h
    exact ⟨_, _, _, _, rfl, h1, h2, h3, bool_not h9⟩
  | _ :: _, h => exact ff h
theorem j_forK {tg : T3} {it : I3} {b : Ss3} (h : chkS (.forK tg it b) ck x = true) : ∃ t i y p, x = .For t i y [] p ∧ chkT ck tg t = true ∧ chki it ck (isTupE t) i = true ∧ chkSs b ck y = true ∧ ck.hot = false := by
  cases x <;> first | exact ff h | skip
  rename_i t i y e p
  match e, h with
  | [], h =>
    obtain ⟨h, h9⟩ := bool_and h
    obtain ⟨h, h3⟩ := bool_and h
    obtain ⟨h1, h2⟩ := bool_and h
    exact ⟨_, _, _, _, rfl, h1, h2, h3, bool_not h9⟩
  | _ :: _, h => exact ff h
theorem j_while {c : E3} {b : Ss3} (h : chkS (.while_ c b) ck x = true) : ∃ t y p, x = .While t y [] p ∧ chk c ck t = true ∧ chkSs b ck y = true := by
  cases x <;> first | exact ff h | skip
  rename_i t y e p
  match e, h with
  | [], h =>
    obtain ⟨h1, h2⟩ := bool_and h
    exact ⟨_, _, _, rfl, h1, h2⟩
  | _ :: _, h => exact ff h
theorem j_raise {c : Nat} (h : chkS (.raise_ c) ck x = true) : ∃ y q m k q2 p2 p, x = .Raise (some (.Call (.Name y q) [.Constant (.str m) k q2] [] p2)) none p ∧ ck.xs[c]? = some y ∧ isGl ck y = true ∧ ck.hot = false ∧ ck.xf[c]? = some none ∧ ck.inDef = true := by
  have h' : (match raiseOf x with
    | some x => decide (ck.xs[c]? = some x) && isGl ck x && !ck.hot && decide (ck.xf[c]? = some none) && ck.inDef
    | none => false) = true := h
  cases e : raiseOf x with
  | none => rw [e] at h'; exact ff h'
  | some t =>
    rw [e] at h'
    obtain ⟨q, m, k, q2, p2, p, rfl⟩ := raiseOf_inv e
    obtain ⟨h', h8⟩ := bool_and h'
    obtain ⟨h', h7⟩ := bool_and h'
    obtain ⟨h', h9⟩ := bool_and h'
    obtain ⟨h1, h2⟩ := bool_and h'
    exact ⟨_, _, _, _, _, _, _, rfl, of_decide_eq_true h1, h2, bool_not h9, of_decide_eq_true h7, h8⟩
theorem j_raiseF {c : Nat} {f : Str} {e : E3} (h : chkS (.raiseF c f e) ck x = true) : ∃ y q v p2 p, x = .Raise (some (.Call (.Name y q) [v] [] p2)) none p ∧ ck.xs[c]? = some y ∧ isGl ck y = true ∧ ck.hot = false ∧ ck.xf[c]? = some (some f) ∧ chk e ck v = true ∧ plainE v = true ∧ ck.inDef = true := by
  have h' : (match raiseFOf x with
    | some (x, v) => decide (ck.xs[c]? = some x) && isGl ck x && !ck.hot && decide (ck.xf[c]? = some (some f)) && chk e ck v && plainE v && ck.inDef
    | none => false) = true := h
  cases er : raiseFOf x with
  | none => rw [er] at h'; exact ff h'
  | some t =>
    obtain ⟨t, v⟩ := t
    rw [er] at h'
    obtain ⟨q, p2, p, rfl⟩ := raiseFOf_inv er
    obtain ⟨h', h8⟩ := bool_and h'
    obtain ⟨h', h7⟩ := bool_and h'
    obtain ⟨h', h6⟩ := bool_and h'
    obtain ⟨h', h5⟩ := bool_and h'
    obtain ⟨h', h4⟩ := bool_and h'
    obtain ⟨h1, h2⟩ := bool_and h'
    exact ⟨_, _, _, _, _, rfl, of_decide_eq_true h1, h2, bool_not h4, of_decide_eq_true h5, h6, h7, h8⟩
end
end L3
namespace L3
open PySem PySem.Spec L2
section
variable {X : Cx} {E : Env3} {w : WX} {CF : CF3} {gl : Gs} {ck : Ck} {x : Stmt}
theorem j_try {body : Ss3} {y : Str} {row : List Bool} {nm : Option Nat} {suite els : Ss3} (h : chkS (.try_ body y row nm suite els) ck x = true) :
    ∃ b q n s0 ss q2 o p, x = .Try b [.ExceptHandler (some (.Name y q)) n (s0 :: ss) q2] o [] p ∧ isGl ck y = true ∧ (y, row) ∈ ck.cs ∧ chkN ck nm n = true ∧ chkSs body ck b = true ∧ chkSs suite { ck with hot := true } (s0 :: ss) = true ∧ chkSs els ck o = true ∧
      (nm = none ∨ els = .nil) ∧ ck.hot = false ∧ ck.inDef = true := by
  have h' : (match tryOf x with
    | some (b, t, n, s0, ss, o) => decide (t = y) && isGl ck y && decide ((y, row) ∈ ck.cs) && chkN ck nm n && chkSs body ck b && chkSs suite { ck with hot := true } (s0 :: ss) && chkSs els ck o && (nm.isNone || isNil3 els) && !ck.hot && ck.inDef
    | none => false) = true := h
  cases e : tryOf x with
  | none => rw [e] at h'; exact ff h'
  | some t =>
    obtain ⟨b, t, n, s0, ss, o⟩ := t
    rw [e] at h'
    obtain ⟨q, q2, p, rfl⟩ := tryOf_inv e
    obtain ⟨h, h9⟩ := bool_and h'
    obtain ⟨h, h8⟩ := bool_and h
    obtain ⟨h, h7⟩ := bool_and h
    obtain ⟨h, h6⟩ := bool_and h
    obtain ⟨h, h5⟩ := bool_and h
    obtain ⟨h, h4⟩ := bool_and h
    obtain ⟨h, h3⟩ := bool_and h
    obtain ⟨h, h2⟩ := bool_and h
    obtain ⟨h0, h1⟩ := bool_and h
    have e := of_decide_eq_true h0
    subst e
    refine ⟨_, _, _, _, _, _, _, _, rfl, h1, of_decide_eq_true h2, h3, h4, h5, h6, ?_, bool_not h8, h9⟩
    cases nm with
    | none => exact .inl rfl
    | some i => cases els with
      | nil => exact .inr rfl
      | cons a b => exact ff h7
theorem CkOk.tr (ok : CkOk ck X E w CF gl) (hh : ck.hot = false) (pn : List (Addr × Obj)) (xe : Value → Shared → Prop) {w' : WX} (tk : Takes (X.tr pn xe) w') (ps : PassesOwn (model X.prog X.w) X.A X.env xe) : CkOk ck (X.tr pn xe) E w' CF gl where
  hK := ok.hK
  hN := ok.hN
  nd := ok.nd
  sc := ok.sc
  kind := ok.kind
  calm := ok.calm
  stk := ok.stk
  cs := fun p h => let ⟨q⟩ := ok.cs p h; ⟨q⟩
  su := fun h => absurd (hh.symm.trans h) (by decide)
  fn := ok.fn
  tk := tk
  pass := ps
  hu := ok.hu
  blt := ok.blt
  gls := ok.gls
  fns := fun _ i x e => let ⟨f, h1, h2, ⟨h3⟩⟩ := (ok.fns hh i x e).ex; ⟨f, h1, h2, ⟨h3⟩⟩
  goc := ok.goc
  cl := ⟨ok.cl.on, ok.cl.fl, ok.cl.cls, ok.cl.noat⟩
  ob := fun _ => ⟨fun c oc m i h1 h2 => let ⟨fa, k1, ⟨k2⟩⟩ := (ok.ob hh).meth c oc m i h1 h2; ⟨fa, k1, ⟨k2⟩⟩, fun c oc h1 => let ⟨fa, k1, k3, ⟨k2⟩, k4⟩ := (ok.ob hh).mkr c oc h1; ⟨fa, k1, k3, ⟨k2⟩, k4⟩⟩
  ics := fun p h => let ⟨q⟩ := ok.ics p h; ⟨q⟩
  xs := ok.xs
  xfl := ok.xfl
  hw := fun h => absurd (hh.symm.trans h) (by decide)
  room := ok.room
  hfn := fun hd i x e => let ⟨f, h1, h2, ⟨h3⟩⟩ := (ok.hfn hd i x e).ex; ⟨f, h1, h2, ⟨h3⟩⟩
theorem CkOk.suite (ok : CkOk ck X E w CF gl) {a : Addr} {oe : Obj} {c : Nat} {d : Option Addr} (pn : List (Addr × Obj)) (hz : Zc (.ref (E.cls c)) d oe) (hf : ∃ vs, oe.data = .fields vs) (hx : XfOk X.K E c) :
    CkOk { ck with hot := true } (X.suite a ((a, oe) :: pn)) E w0 CF { gl with su := some (a, c, d) } where
  hK := ok.hK
  hN := ok.hN
  nd := ok.nd
  sc := ok.sc
  kind := ok.kind
  calm := fun h => ff h.symm
  stk := ok.stk
  cs := fun p h => let ⟨q⟩ := ok.cs p h; ⟨q⟩
  su := fun _ => ⟨a, oe, c, d, List.mem_cons_self, rfl, hz, hf, hx⟩
  fn := ok.fn
  tk := takes0
  pass := PassesOwn.never
  hu := ok.hu
  blt := ok.blt
  gls := ok.gls
  fns := fun h => ff h.symm
  goc := ok.goc
  cl := ⟨ok.cl.on, ok.cl.fl, ok.cl.cls, ok.cl.noat⟩
  ob := fun h => ff h.symm
  ics := fun p h => let ⟨q⟩ := ok.ics p h; ⟨q⟩
  xs := fun h => ff h.symm
  xfl := ok.xfl
  hw := fun _ => rfl
  room := fun _ h => ff h.symm
  hfn := fun hd i x e => let ⟨f, h1, h2, ⟨fd, ps, k, h3, h4, h5⟩⟩ := (ok.hfn hd i x e).ex; ⟨f, h1, h2, ⟨fd, ps, k, h3, ⟨h4.dp, h4.un⟩, h5⟩⟩
theorem pssE {l : List Stmt} {ι κ : Type} {p : ι → κ → Prop} {t : ι → κ → TS} (h : ∀ i j, p i j → PSs X l (t i j)) : PSs X l (fun D σ H => ∃ i j, p i j ∧ t i j D σ H) := ⟨fun pins s σ H D I ⟨i, j, hp, q⟩ => (h i j hp).run pins s σ H D I q⟩
def tsuite (E : Env3) (CF : CF3) (gl : Gs) (suite : Ss3) (a : Addr) (cls : Value) (d : Option Addr) : TS := fun D σ H => ∃ (c : Nat) (_ : Unit), (cls = .ref (E.cls c) ∧ XfOk E.K E c) ∧ liftS E w0 (svs CF { gl with su := some (a, c, d) } suite) D σ H
def clrD (nm : Option Nat) (D : Ends) : Ends := match nm with
  | some i => { nx := fun σ' H' => D.nx (σ'.set i none) H', rt := D.rt, bk := fun σ' H' => D.bk (σ'.set i none) H', ct := fun σ' H' => D.ct (σ'.set i none) H' }
  | none => D
def setN (nm : Option Nat) (a : Addr) (σ : L2.St) : L2.St := match nm with
  | some i => σ.set i (some (.ref a))
  | none => σ
theorem suite_nx {E : Env3} {g : G} {H : Hp} {d : Ends3} {D : Ends} (nm : Option Nat) (kd : KD E g H d D w) :
    KD E g H (suD nm d) (clrD nm D) w0 := by
  cases nm with
  | none => exact ⟨kd.nx, kd.rt, kd.bk, kd.ct, fun _ _ _ _ _ _ _ _ _ _ _ _ z => z.elim⟩
  | some i =>
    have un : ∀ {n : Sx → G → Prop} {N : L2.St → Hp → Prop}, KN E g H n N → KN E g H (fun s g => n (s.set i none) g) (fun σ' H' => N (σ'.set i none) H') :=
      fun k s2 g2 σ2 H2 r2 q2 f2 h2 => k _ g2 _ H2 (SR.unset i r2) q2 f2 h2
    exact ⟨un kd.nx, kd.rt, un kd.bk, un kd.ct, fun _ _ _ _ _ _ _ _ _ _ _ _ z => z.elim⟩
theorem suR_use {E : Env3} {g g' : G} {H H' : Hp} {c : Nat} {fs : List (Str × W)} {cls : Value} {x : Option Addr} {k : Option Addr → G → Prop} (h : suR fs k g') (xr : XR E g H H' c fs cls x) (hg : GR E g' H') (f : FK g H g' H') : ∃ g2, GR E g2 H' ∧ FK g H g2 H' ∧ k x g2 := by
  obtain ⟨_, xr⟩ := xr
  rcases xr with ⟨e1, e2⟩ | ⟨dd, l, ne, e1, fr, hl, k1, k2⟩
  · subst e1 e2
    exact ⟨g', hg, f, h⟩
  · subst e1
    cases fs with
    | nil => exact absurd rfl ne
    | cons p fs =>
      refine ⟨_, fun b o e => ?_, ⟨fun b u hu hn => ?_, f.frz⟩, h dd fun o eo => ?_⟩
      · by_cases z : b = dd
        · subst z; rw [gup_same] at e; cases e; exact ⟨l, hl, k1, k2⟩
        · rw [gup_ne z] at e; exact hg b o e
      · obtain ⟨q1, q2⟩ := f.own b u hu hn
        have z : b ≠ dd := fun z => by subst z; exact fr u hu hn
        exact ⟨q1, by rw [gup_ne z]; exact q2⟩
      · have r := hg dd o eo
        cases o with
        | lst xs => obtain ⟨ys, r, _⟩ := r; rw [hl] at r; cases r
        | dic lk kvs => obtain ⟨l, r, _⟩ := r; cases lk <;> simp [DicAt, hl] at r
        | dit lk kvs => obtain ⟨l, r, _⟩ := r; cases lk <;> simp [DicAt, hl] at r
        | ins c fs => obtain ⟨_, _, dx, l, r, _⟩ := r; rw [hl] at r; cases r
        | xd l => exact ⟨l, rfl⟩
theorem s_try (ok : CkOk ck X E w CF gl) {body : Ss3} {y : Str} {row : List Bool} {nm : Option Nat} {suite els : Ss3} {b ss o : List Stmt} {q q2 p : Pos} {n : Option Str} {s0 : Stmt}
    (h1 : isGl ck y = true) (h2 : (y, row) ∈ ck.cs) (h3 : chkN ck nm n = true) (hb : ∀ {X' : Cx} {w' : WX}, CkOk ck X' E w' CF gl → PSs X' b (liftS E w' (svs CF gl body)))
    (hsu : ∀ {X' : Cx} {gl' : Gs}, CkOk { ck with hot := true } X' E w0 CF gl' → PSs X' (s0 :: ss) (liftS E w0 (svs CF gl' suite))) (ho : PSs X o (liftS E w (svs CF gl els))) (ho' : els = .nil → o = []) (h7 : nm = none ∨ els = .nil) (hh : ck.hot = false) (hd : ck.inDef = true) :
    PS X (.Try b [.ExceptHandler (some (.Name y q)) n (s0 :: ss) q2] o [] p) (liftS E w (sv CF gl (.try_ body y row nm suite els))) := by
  obtain ⟨v, cv, rv, uv, mv, facts⟩ := (ok.cs _ h2).ex
  obtain ⟨hst, hfr⟩ := ok.stk hd
  have hg := ok.gl' h1
  have nms : Names X y cv := ⟨hg.1, hg.2, mv⟩
  have hbody : ∀ (W : WX) (pn : List (Addr × Obj)) (xe : Value → Shared → Prop), Takes (X.tr pn xe) W → PassesOwn (model X.prog X.w) X.A X.env xe → PSs (X.tr pn xe) b (liftS E W (svs CF gl body)) :=
    fun W pn xe tk ps => hb (ok.tr hh pn xe tk ps)
  have hsuite : ∀ (a : Addr) (oe : Obj) (cls : Value) (d : Option Addr) (pn : List (Addr × Obj)), Zc cls d oe → (∃ vs, oe.data = .fields vs) → PSs (X.suite a ((a, oe) :: pn)) (s0 :: ss) (tsuite E CF gl suite a cls d) :=
    fun a oe cls d pn hz hf => pssE fun c _ hp => by
      obtain ⟨rfl, hx⟩ := hp
      exact hsu (ok.suite pn hz hf (by rw [ok.hK]; exact hx))
  have way : ∀ {g : G} {H : Hp} {d : Ends3} {D : Ends}, KD E g H d D w → ∀ c fs s' g' σ' cls x H', SR E.K H' s' σ' → GR E g' H' → XR E g H H' c fs cls x → FK g H g' H' →
      (∃ b, row[c]? = some b ∧ if b = true then ∀ a, g' a = none → suR fs (fun x g2 => svs CF { gl with su := some (a, c, x) } suite (suD nm d) (enN nm a c x s') g2) g' else d.ex c fs s' g') →
      ∃ b, PySem.W.exmOne X.K cls cv = some b ∧ (b = true → ∀ a, H' a = none → tsuite E CF gl suite a cls x (clrD nm D)
        (setN nm a σ') H') ∧ (b = false → w cls x σ' H') := by
    intro g H d D kd c fs s' g' σ' cls x H' r1 r2 xr f hx
    obtain ⟨bb, eb, hx⟩ := hx
    obtain ⟨ec, xd⟩ := id xr
    subst ec
    refine ⟨bb, (facts _ _ eb).2.1, fun e a ha => ?_, fun e => ?_⟩
    · rw [if_pos e] at hx
      obtain ⟨g2, q1, q2, q3⟩ := suR_use (hx a (r2.free ha)) xr r2 f
      refine ⟨c, (), ⟨rfl, by rw [← ok.hK]; exact (facts _ _ eb).2.2.2⟩, _, g2, _, ?_, q1, q3, suite_nx nm (kd.at q2)⟩
      cases nm with
      | none => exact r1
      | some i => exact r1.set (w := .exc a c x) (v := .ref a) (by rw [RV]) i
    · rw [if_neg (by rw [e]; decide)] at hx
      exact kd.ex c fs s' g' σ' _ x H' r1 r2 xr f hx
  cases nm with
  | some i =>
    have hn : els = .nil := by rcases h7 with z | z; cases z; exact z
    subst hn
    obtain rfl := ho' rfl
    cases n with
    | none => exact ff h3
    | some n =>
      have h3' : (decide (ck.N[i]? = some n) && decide (ck.sc.names.lookup n = some .local)) = true := h3
      obtain ⟨k1, k2⟩ := bool_and h3'
      have e1 : X.N[i]? = some n := by rw [ok.hN]; exact of_decide_eq_true k1
      have e2 : X.env.kindOf n = some .local := by show X.env.scope.names.lookup n = _; rw [ok.sc]; exact of_decide_eq_true k2
      refine psI (ps_try_as hst hfr ok.nd' e1 e2 nms ok.tk hbody hsuite) fun D σ H h => ?_
      obtain ⟨s, g, d, hs, hg', h, kd⟩ := h
      exact ⟨s, g, _, hs, hg', h, ⟨kd.nx, kd.rt, kd.bk, kd.ct, way kd⟩⟩
  | none =>
    cases n with
    | some _ => exact ff h3
    | none =>
      refine psI (ps_try_onlyE ho hst hfr nms ok.tk hbody hsuite) fun D σ H h => ?_
      obtain ⟨s, g, d, hs, hg', h, kd⟩ := h
      refine ⟨s, g, _, hs, hg', h, ⟨?_, kd.rt, kd.bk, kd.ct, way kd⟩⟩
      intro s2 g2 σ2 H2 r2 q2 f2 h2
      exact ⟨s2, g2, d, r2, q2, h2, kd.at f2⟩
end
end L3
set_option maxRecDepth 100000
set_option maxHeartbeats 16000000
namespace L3
open PySem PySem.Spec L2
section
variable {E : Env3} {CF : CF3} {gl : Gs}
theorem s_set {X : Cx} {w : WX} {ck : Ck} (ok : CkOk ck X E w CF gl) {i : Nat} {e : E3} {y : Str} {q p : Pos} {v : Expr} (h1 : isLoc ck i y = true) (h2 : chk e ck v = true) (h3 : notComp v = true ∨ isFrz e = false) :
    PS X (.Assign [.Name y q] v p) (liftS E w (sv CF gl (.set i e))) := by
  obtain ⟨l1, l2, l3⟩ := ok.loc h1
  have pe := (s_e e ok h2).1
  have plain : swapsWith v (some (.Name y q)) p.line X.env = pure false → PS X (.Assign [.Name y q] v p) (liftS E w (sv CF gl (.set i e))) :=
    fun hs => psI (ps_set (i := i) ok.nd' l1 l2 pe hs l3) fun _ _ _ => l_set
  cases hn : notComp v with
  | true => exact plain (swaps_no hn _)
  | false =>
    have hz : isFrz e = false := by
      rcases h3 with z | z
      · rw [hn] at z; cases z
      · exact z
    cases v <;> first | (simp [notComp] at hn; done) | (cases e <;> first | (cases hz; done) | exact ff h2) | skip
    rename_i el gens scope vp
    by_cases hy : X.env.scope.names.lookup y = some .local
    case neg =>
      refine plain ?_
      have hk : (X.env.kindOf y == some NameKind.local) = false := by
        show (X.env.scope.names.lookup y == some NameKind.local) = false
        cases hq : X.env.scope.names.lookup y with
        | none => rfl
        | some z => rw [hq] at hy; cases z <;> first | rfl | exact absurd rfl hy
      show (pure (X.env.blockKind == .function && X.env.kindOf y == some .local && q.line == vp.line && !(scope.names.any fun (n, k) => n == y && (k == .local || k == .cell))) : Sem Bool) = pure false
      rw [hk]
      simp
    have hb : ∃ b : Bool, swapsWith (.ListComp el gens scope vp) (some (.Name y q)) p.line X.env = pure b := ⟨_, rfl⟩
    obtain ⟨b, hb⟩ := hb
    cases b with
    | false => exact plain hb
    | true =>
      cases e <;> first | (cases hz; done) | exact ff h2 | skip
      · rename_i elt tg it c own
        obtain ⟨e, tg', it', ifs, scope2, p', e0, k1, k2, k3, k4, k5, k6, k7, k8, hh⟩ := i_lc h2
        cases e0
        have hk := blk_kind k1
        have hb2 : BlkOk X.N X.env.scope scope (own.filterMap fun i => ck.N[i]?.map fun x => (x, i)) := by rw [ok.hN, ok.sc]; exact blkOk_by k1
        refine psI (ps_setLc (i := i) (ok.calm hh) ok.nd' l1 hy hb (s_i it ok tg' k5) hb2 (fun s H C cl fp => s_t (ok.blk hh s H scope hk C cl fp) k6) (fun s H C cl fp => s_c c (ok.blk hh s H scope hk C cl fp) k8)
          (fun s H C cl fp => (s_e elt (ok.blk hh s H scope hk C cl fp) k7).1) (fold_id (chki_noset k5))) fun D σ H h => ?_
        have h' := l_set (te := ev CF gl (.lc elt tg it c own)) (i := i) h
        rw [own_ix k3]
        exact l_lc (Q := fun x H1 => gName i x σ H1 D.nx) k2 h'
      · rename_i elt tg it c own
        obtain ⟨e, tg', it', ifs, scope2, p', e0, k1, k2, k3, k4, k5, k6, k7, k8, hh⟩ := i_lcK h2
        cases e0
        have hk := blk_kind k1
        have hb2 : BlkOk X.N X.env.scope scope (own.filterMap fun i => ck.N[i]?.map fun x => (x, i)) := by rw [ok.hN, ok.sc]; exact blkOk_by k1
        refine psI (ps_unl (ps_setLc (i := i) (ok.calm hh) ok.nd' l1 hy hb (s_i it ok tg' k5) hb2 (fun s H C cl fp => s_t (ok.blk hh s H scope hk C cl fp) k6) (fun s H C cl fp => s_c c (ok.blk hh s H scope hk C cl fp) k8)
          (fun s H C cl fp => (s_e elt (ok.blk hh s H scope hk C cl fp) k7).1) (fold_id (chki_noset k5)))) fun D σ H h => ?_
        obtain ⟨s, g, d, hs, hg, h, kd⟩ := h
        rw [own_ix k3]
        refine l_lc (Q := fun x H1 => gName i x σ H1 (unE H D).nx) k2 ⟨s, g, _, _, hs, hg, h, fun a g1 v H1 hg1 ra f1 h1 => ?_, kd.xk hs hg⟩
        exact un_of hg hg1 f1 h1 fun g2 H2 q1 q2 t p => kd.nx _ g2 _ H2 (((hs.keep (f1.tk hg)).keep t).set (ra.keep t) i) q1 q2 p
mutual
theorem s_s : ∀ (st : S3) {gl : Gs} {X : Cx} {w : WX} {ck : Ck}, CkOk ck X E w CF gl → ∀ {x : Stmt}, chkS st ck x = true → PS X x (liftS E w (sv CF gl st))
  | .expr e, gl, X, w, ck, ok, x, h => by
    cases x <;> first | exact ff h | skip
    obtain ⟨h1, h2⟩ := bool_and h
    exact psI (ps_expr (s_e e ok h1).1 (swaps_no h2 _)) fun _ _ _ => l_drop
  | .ret e, gl, X, w, ck, ok, x, h => by
    cases x <;> first | exact ff h | skip
    rename_i v p
    cases v <;> first | exact ff h | skip
    exact psI (ps_ret (s_e e ok h).1) fun _ _ _ => l_ret
  | .retN, gl, X, w, ck, ok, x, h => by
    cases x <;> first | exact ff h | skip
    rename_i v p
    cases v <;> first | exact ff h | skip
    refine psI ps_retN fun D σ H h => ?_
    obtain ⟨s, g, d, hs, hg, h, kd⟩ := h
    exact kd.rt .non g .non H hg rv_non FK.refl h
  | .set i e, gl, X, w, ck, ok, x, h => by
    obtain ⟨y, q, v, p, rfl, h1, h2, h3⟩ := j_set h
    exact s_set ok h1 h2 h3
  | .setT is e, gl, X, w, ck, ok, x, h => by
    obtain ⟨es, k, q, v, p, rfl, h1, h2, h3, hh⟩ := j_setT h
    exact psI (ps_asg (s_e e ok h2).1 (s_t (tg := .tup is) ok (show (locs ck is es && !ck.hot) = true by rw [h1, hh]; rfl)) swapsT (swappedT h3)) fun _ _ _ => l_setT
  | .par i j a b, gl, X, w, ck, ok, x, h => by
    obtain ⟨y, py, z, pz, k, q, u, v, k2, q2, p, rfl, h1, h2, h3, h4, h5, h6, h7, h8, hh⟩ := j_par h
    have hl := ok.loc h2
    have hl' := ok.loc h3
    have h8' := h8
    unfold swapOk at h8'
    obtain ⟨h9, _⟩ := bool_and h8'
    obtain ⟨h9, _⟩ := bool_and h9
    obtain ⟨h9, _⟩ := bool_and h9
    obtain ⟨h9, hz⟩ := bool_and h9
    obtain ⟨_, hy⟩ := bool_and h9
    have hy' : X.env.scope.names.lookup y = some .local := by rw [ok.sc]; exact of_decide_eq_true hy
    have hz' : X.env.scope.names.lookup z = some .local := by rw [ok.sc]; exact of_decide_eq_true hz
    exact psI (ps_par (ok.calm hh) ok.nd' hl.1 hl'.1 h1 hy' hz' (pa_cons (s_e a ok h4).1 (pa_cons (s_e b ok h5).1 pa_nil (star_plain h7)) (star_plain h6)) (swappedP ok h6 h7 h8) swapsT) fun _ _ _ => l_par
  | .put o i e, gl, X, w, ck, ok, x, h => by
    obtain ⟨l, r, q, v, p, rfl, h1, h2, h3, h4⟩ := j_put h
    have := ok.hu
    exact psI (ps_asg (s_e e ok h1).1 (pg_sub (s_e o ok h2).1 (s_e i ok h3).1 (l_put (by omega)) (asg_sub h4)) swapsS) fun _ _ _ => l_put3
  | .ifS c a b, gl, X, w, ck, ok, x, h => by
    cases x <;> first | exact ff h | skip
    obtain ⟨h, h3⟩ := bool_and h
    obtain ⟨h1, h2⟩ := bool_and h
    exact psI (ps_if (s_e c ok h1).2 (s_ss a ok h2) (s_ss b ok h3)) fun _ _ _ => l_if (tc := bT (ev CF gl c)) (ta := svs CF gl a) (tb := svs CF gl b)
  | .for_ tg it b, gl, X, w, ck, ok, x, h => by
    obtain ⟨t, i, y, p, rfl, h1, h2, h3, hh⟩ := j_for h
    exact psI (ps_for ok.pass (ok.calm hh) (s_i it ok t h2) (s_t ok h1) (s_ss b ok h3) (fold_id (chki_noset h2))) fun _ _ _ => l_for
  | .forK tg it b, gl, X, w, ck, ok, x, h => by
    obtain ⟨t, i, y, p, rfl, h1, h2, h3, hh⟩ := j_forK h
    exact psI (ps_unl (ps_for ok.pass (ok.calm hh) (s_i it ok t h2) (s_t ok h1) (s_ss b ok h3) (fold_id (chki_noset h2)))) fun _ _ _ => l_forK
  | .while_ c b, gl, X, w, ck, ok, x, h => by
    obtain ⟨t, y, p, rfl, h1, h2⟩ := j_while h
    exact psI (ps_while ok.pass (s_e c ok h1).2 (s_ss b ok h2)) fun _ _ _ => l_while
  | .brk, gl, X, w, ck, ok, x, h => by
    cases x <;> first | exact ff h | skip
    refine psI ps_break fun D σ H h => ?_
    obtain ⟨s, g, d, hs, hg, h, kd⟩ := h
    exact kd.bk s g σ H hs hg FK.refl h
  | .cont, gl, X, w, ck, ok, x, h => by
    cases x <;> first | exact ff h | skip
    refine psI ps_continue fun D σ H h => ?_
    obtain ⟨s, g, d, hs, hg, h, kd⟩ := h
    exact kd.ct s g σ H hs hg FK.refl h
  | .pass, gl, X, w, ck, ok, x, h => by
    cases x <;> first | exact ff h | skip
    exact psI ps_pass fun _ _ _ => l_nx
  | .raise_ c, gl, X, w, ck, ok, x, h => by
    obtain ⟨y, q, m, k, q2, p2, p, rfl, h1, h2, hh, hxf, hd⟩ := j_raise h
    refine psI (ps_raise (W := w) (ok.calm hh) ok.tk (((ok.xs hh c y h1 X rfl rfl rfl rfl (ok.room hd hh)).1 hxf).pm (ok.gl' h2).1 _ _ _ _ _)) fun D σ H h => ?_
    obtain ⟨s, g, d, hs, hg, h, kd⟩ := h
    exact kd.ex c [] s g σ _ none H hs hg ⟨rfl, .inl ⟨rfl, rfl⟩⟩ FK.refl h
  | .raiseF c f e, gl, X, w, ck, ok, x, h => by
    obtain ⟨y, q, v, p2, p, rfl, h1, h2, hh, hxf, h4, h5, hd⟩ := j_raiseF h
    refine psI (ps_raise (W := w) (ok.calm hh) ok.tk (((ok.xs hh c y h1 X rfl rfl rfl rfl (ok.room hd hh)).2 f hxf).pm (ok.gl' h2).1 (ok.gl' h2).2 _ _ _ _ (s_e e ok h4).1 h5)) fun D σ H h => ?_
    obtain ⟨s, g, d, hs, hg, h, kd⟩ := h
    refine ⟨s, g, _, _, hs, hg, h, fun u g1 v1 H1 hg1 r1 f1 h1 => xfq_of fun a ha => ?_, kd.xk hs hg⟩
    have t := TK.new (o := .xd [(f, v1)]) ha
    refine kd.ex c [(f, u)] s g1 σ _ (some a) _ ((hs.keep (f1.tk hg)).keep t) (hg1.new' ha) ⟨rfl, .inr ⟨a, [(f, v1)], by simp, rfl, fun z hz hn => ?_, upd_same, rfl, RVs.cons (r1.keep t) .nil⟩⟩ (f1.trans (FK.new' ha)) h1
    have := (f1.own a z hz hn).1
    rw [ha] at this; cases this
  | .try_ body y row nm suite els, gl, X, w, ck, ok, x, h => by
    obtain ⟨b, q, n, s0, ss, q2, o, p, rfl, h1, h2, h3, h4, h5, h6, h7, h8, h9⟩ := j_try h
    exact s_try ok h1 h2 h3 (fun ok' => s_ss body ok' h4) (fun ok' => s_ss suite ok' h5) (s_ss els ok h6) (fun e => by subst e; cases o <;> first | rfl | exact ff h6) h7 h8 h9
  | .seta o f e, gl, X, w, ck, ok, x, h => by
    obtain ⟨l, q, v, p, rfl, h1, h2, h3, h4⟩ := j_seta h
    exact s_seta ok h1 (swaps_no h2 _) (s_e o ok h4).1 (s_e e ok h3).1
  | .fz i st, gl, X, w, ck, ok, x, h => psI (ps_fz (s_s st ok h)) fun _ _ _ => l_fz
  | .never, gl, X, w, ck, ok, x, h => psI ps_never fun D σ H h => by
    obtain ⟨s, g, d, hs, hg, h, kd⟩ := h
    exact h
theorem s_ss : ∀ (st : Ss3) {gl : Gs} {X : Cx} {w : WX} {ck : Ck}, CkOk ck X E w CF gl → ∀ {x : List Stmt}, chkSs st ck x = true → PSs X x (liftS E w (svs CF gl st))
  | .nil, gl, X, w, ck, ok, [], h => pssI pss_nil fun _ _ _ => l_nx
  | .nil, gl, X, w, ck, ok, _ :: _, h => ff h
  | .cons s ss, gl, X, w, ck, ok, [], h => ff h
  | .cons s ss, gl, X, w, ck, ok, x :: xs, h => by
    obtain ⟨h1, h2⟩ := bool_and h
    exact pssI (pss_cons (s_s s ok h1) (s_ss ss ok h2)) fun _ _ _ => l_seq (ta := sv CF gl s) (tb := svs CF gl ss)
end
end
def ckOf (P : List FD3) (gls xs : List Str) (cs : List (Str × List Bool)) (ocs : List OC3) (fl : List Str) (ics : List (Str × List Bool)) (xf : List (Option Str)) (xfl : List Str) (d : FD3) (sc : Scope) : Ck := { N := d.slots, sc := sc, inDef := true, P := P.map fun d => if d.glob = true ∧ d.hot = false then some d.gn else none, gls := gls, xs := xs, cs := cs, hot := d.hot, ocs := ocs, fl := fl, ics := ics, hP := P.map fun d => if d.glob = true ∧ d.hot = true then some d.gn else none, xf := xf, xfl := xfl }
structure DefOk (K : PySem.W.Frag) (mg : Str → Option Value) (P : List FD3) (gls xs : List Str) (cs : List (Str × List Bool)) (ocs : List OC3) (fl : List Str) (ics : List (Str × List Bool)) (xf : List (Option Str)) (xfl : List Str) (d : FD3) (f : Addr) (fd : FuncData) : Prop where
  ex : ∃ (qual : Str) (params : Arguments) (body : List Stmt) (scope : Scope) (oc : Value) (od : Option Addr) (dV kV doc pm : Value) (an : Option Addr) (cdv ct : Value) (osl : Array (Option Value)),
    fd = PySem.W.fnOf d.name qual params body scope dV kV doc pm an cdv ct ∧ K.lookup f = some ⟨oc, od, .func fd, osl⟩ ∧ PySem.W.codeIn K cdv qual = true ∧ FnScope d.slots d.params scope ∧ chkSs d.body (ckOf P gls xs cs ocs fl ics xf xfl d scope) body = true
  kp : PySem.W.keepIn K (.ref f) = true
  mg : d.glob = true → mg d.gn = some (.ref f)
  bind : ∀ m, m ≤ d.params.length → d.params.length ≤ m + d.dflt.length → ∃ ds dvs, Vals dvs ds ∧ Binds K fd d.params ds ∧ ∀ H, RVs K H (d.dflt.drop (d.dflt.length + m - d.params.length)) dvs
structure TopOk (prog : Program) (w : World) (K : PySem.W.Frag) (mg : Str → Option Value) (E : Env3) (P : List FD3) (gl : Gs) (gls xs : List Str) (cs : List (Str × List Bool)) (ocs : List OC3) (fl : List Str) (ics : List (Str × List Bool)) (xf : List (Option Str)) (xfl : List Str) (fa : Nat → Addr) (fd : Nat → FuncData) : Prop where
  hK : K = E.K
  defs : ∀ i d, P[i]? = some d → DefOk K mg P gls xs cs ocs fl ics xf xfl d (fa i) (fd i)
  blt : ∀ x ∈ blts, mg x = none
  gls : ∀ i x, gls[i]? = some x → ∃ u v, mg x = some u ∧ RelV v u ∧ ∀ H, RV E.K H (gl.v i) v
  xs : ∀ c x, xs[c]? = some x → ∀ X : Cx, X.prog = prog → X.w = w → X.K = K → X.mg = mg → Room 2 X.A → (xf[c]? = some none → RaiseOk X E c x) ∧ ∀ f, xf[c]? = some (some f) → RaiseFOk X E c x f
  cs : ∀ p ∈ cs, ∀ X : Cx, X.K = K → X.mg = mg → ClsFact X E p.1 p.2
  goc : gl.ocs = ocs
  on : E.on = ocs.length
  fl : E.fl = fl
  xfl : E.xfl = xfl
  cls : ∀ c, c < E.on → Cls K (E.ocl c)
  noat : ∀ c, c < E.on → ∀ f ∈ E.fl, NoAttr K (E.ocl c) f
  meth : ∀ c oc m i, ocs[c]? = some oc → oc.meths.lookup m = some i → Meth K (E.ocl c) m (fa i) ∧ ∃ d, P[i]? = some d ∧ d.hot = false
  mkr : ∀ c oc, ocs[c]? = some oc → Mk K (E.ocl c) (fa oc.init) ∧ mg oc.name = some (.ref (E.ocl c)) ∧ InitRd K (E.ocl c) (fa oc.init) ∧ ∃ d, P[oc.init]? = some d ∧ d.hot = false
  ics : ∀ p ∈ ics, ∀ X : Cx, X.K = K → X.mg = mg → IscFact X E p.1 p.2
theorem callF_full {P : List FD3} {gl : Gs} {n f : Nat} {ws : List W} {g : G} {x : XK3} {q : VK3} {d : FD3} (e : P[f]? = some d) (hh : d.hot = false) (h : callF P gl n f ws g x q) : ws.length ≤ d.params.length ∧ d.params.length ≤ ws.length + d.dflt.length ∧
    (ws ++ d.dflt.drop (d.dflt.length + ws.length - d.params.length)).length = d.params.length ∧ callF P gl n f (ws ++ d.dflt.drop (d.dflt.length + ws.length - d.params.length)) g x q := by
  cases n with
  | zero => exact h.elim
  | succ n =>
    unfold callF at h
    rw [e] at h
    simp only [hh] at h
    obtain ⟨h1, h2⟩ := h
    have hl := h1
    rw [List.length_append, List.length_drop] at hl
    refine ⟨by omega, by omega, h1, ?_⟩
    unfold callF
    rw [e]
    have e2 : d.dflt.drop (d.dflt.length + (ws ++ d.dflt.drop (d.dflt.length + ws.length - d.params.length)).length - d.params.length) = [] := by
      rw [h1]
      exact List.drop_eq_nil_of_le (by omega)
    simp only [hh, e2, List.append_nil]
    exact ⟨h1, h2⟩
theorem callF_hot {P : List FD3} {gl : Gs} {n f : Nat} {ws : List W} {g : G} {x : XK3} {q : VK3} {d : FD3} {a : Addr} {c : Nat} {dd : Option Addr} (e : P[f]? = some d) (hh : d.hot = true) (h : callF P gl n f (.exc a c dd :: ws) g x q) : ws.length = d.params.length ∧
    ∃ m, n = m + 1 ∧ svs (callF P gl m) { gl with su := some (a, c, dd) } d.body { nx := fun _ g1 => rtS g q .non g1, rt := rtS g q, bk := fun _ _ => False, ct := fun _ _ => False, ex := fun _ _ _ _ => False } (ws.map some ++ List.replicate (d.slots.length - d.params.length) none) g := by
  cases n with
  | zero => exact h.elim
  | succ n =>
    unfold callF at h
    rw [e] at h
    simp only [hh] at h
    exact ⟨h.1, n, rfl, h.2⟩
theorem _root_.L3.FK.sub {g g' : G} {H H' : Hp} (f : FK g H g' H') (he : Ext g g') : FK g H g H' := ⟨fun a u h n => ⟨(f.own a u h n).1, n⟩, f.frz⟩
theorem rtS_kq {E : Env3} {g : G} {H : Hp} {q : VK3} {Q : VK} (_ : GR E g H) (kq : KQ E g H q Q) : KQ E g H (rtS g q) Q := fun w g' v H' hg' r f h => by
  rcases h with h | ⟨he, h⟩
  · exact kq w g' v H' hg' r f h
  · exact kq w g v H' (hg'.sub he) r (f.sub he) h
theorem hot_body {prog : Program} {w : World} {K : PySem.W.Frag} {mg : Str → Option Value} {base : Heap} {E : Env3} {P : List FD3} {gl : Gs} {gls xs : List Str} {cs : List (Str × List Bool)} {ocs : List OC3} {fl : List Str} {ics : List (Str × List Bool)} {xf : List (Option Str)} {xfl : List Str} {fa : Nat → Addr} {fd : Nat → FuncData}
    (T : TopOk prog w K mg E P gl gls xs cs ocs fl ics xf xfl fa fd) {n k : Nat} {d : FD3} (hhot : d.hot = true) {qual : Str} {scope : Scope} {f : Addr} {cdv : Value} {body : List Stmt} (S : FnScope d.slots d.params scope) (hc : chkSs d.body (ckOf P gls xs cs ocs fl ics xf xfl d scope) body = true)
    {A : Around} {out : List Env} {s : Shared} {H : Hp} {a : Addr} {oe : Obj} {cn : Nat} {dd : Option Addr} (hz : Zc (.ref (E.cls cn)) dd oe) (hf : ∃ vs, oe.data = .fields vs) (hx : XfOk K E cn) (hr : L2H.RoomH k (A.deeper (PyProof.Rows.envOfC qual scope s.heap.objs.size f cdv)))
    (hfn : ∀ (X1 : Cx), L2H.RoomH k X1.A → X1.prog = prog → X1.w = w → X1.K = K → X1.mg = mg → X1.base = base → ∀ i x, (P.map fun d => if d.glob = true ∧ d.hot = true then some d.gn else none)[i]? = some (some x) → HCallOk X1 E (callF P gl n i) x) :
    PSs (L2H.cxH (L2.CX prog w) prog w K mg base d.slots qual scope f cdv A out s H (fun _ _ _ => False) (a, oe)) body (liftS E w0 (svs (callF P gl n) { gl with su := some (a, cn, dd) } d.body)) := by
  have no : ∀ {p : Prop}, (ckOf P gls xs cs ocs fl ics xf xfl d scope).hot = false → p := fun z => absurd (hhot.symm.trans z) (by decide)
  refine s_ss d.body (ck := ckOf P gls xs cs ocs fl ics xf xfl d scope) ?_ hc
  exact {
    hK := T.hK
    hN := rfl
    nd := S.nd
    sc := rfl
    kind := S.kind
    calm := fun h => no h
    stk := fun _ => ⟨rfl, rfl⟩
    cs := fun p h => T.cs p h _ rfl rfl
    su := fun _ => ⟨a, oe, cn, dd, List.mem_singleton.mpr rfl, rfl, hz, hf, hx⟩
    fn := fun _ _ => rfl
    tk := takes0
    pass := passes_of rfl
    hu := by
      show (A.deeper (PyProof.Rows.envOfC qual scope s.heap.objs.size f cdv)).units + 100 < cLine
      have := hr.un
      omega
    blt := T.blt
    gls := T.gls
    fns := fun h => no h
    goc := T.goc
    cl := ⟨T.on, T.fl, T.cls, T.noat⟩
    ob := fun h => no h
    ics := fun p h => T.ics p h _ rfl rfl
    xs := fun h => no h
    xfl := T.xfl
    hw := fun _ => rfl
    room := fun _ h => no h
    hfn := fun _ => hfn _ hr rfl rfl rfl rfl rfl }
theorem hot_calls0 {prog : Program} {w : World} {K : PySem.W.Frag} {mg : Str → Option Value} {base : Heap} {E : Env3} {P : List FD3} {gl : Gs} {gls xs : List Str} {cs : List (Str × List Bool)} {ocs : List OC3} {fl : List Str} {ics : List (Str × List Bool)} {xf : List (Option Str)} {xfl : List Str} {fa : Nat → Addr} {fd : Nat → FuncData}
    (T : TopOk prog w K mg E P gl gls xs cs ocs fl ics xf xfl fa fd) {n : Nat} (ih : ∀ (j : Nat) (dj : FD3), P[j]? = some dj → dj.hot = true → ∀ (a : Addr) (oe : Obj) (cn : Nat) (dd : Option Addr), Zc (.ref (E.cls cn)) dd oe → (∃ vs, oe.data = .fields vs) → XfOk K E cn →
      FnX prog w K mg base (2 * n + 2) (fa j) (fd j) dj.params (spF E (fun ws g x q => callF P gl n j (.exc a cn dd :: ws) g x q) dj.params.length) (a, oe))
    (X1 : Cx) (hr : L2H.RoomH (2 * n + 3) X1.A) (q1 : X1.prog = prog) (q2 : X1.w = w) (q3 : X1.K = K) (q4 : X1.mg = mg) (q5 : X1.base = base) : ∀ i x, (P.map fun d => if d.glob = true ∧ d.hot = true then some d.gn else none)[i]? = some (some x) → HCallOk X1 E (callF P gl n i) x := fun j y ej => by
  subst q1 q2 q3 q4 q5
  rw [List.getElem?_map, Option.map_eq_some_iff] at ej
  obtain ⟨dj, ej2, ez⟩ := ej
  by_cases hg : dj.glob = true ∧ dj.hot = true
  · rw [if_pos hg] at ez
    cases ez
    have Dj := T.defs j dj ej2
    obtain ⟨ds, dvs, k1, k2, k3⟩ := Dj.bind dj.params.length (Nat.le_refl _) (by omega)
    have kd : dvs = [] := by
      have := k3 (fun _ => none)
      rw [List.drop_eq_nil_of_le (by omega)] at this
      exact this.nil_inv
    subst kd
    cases k1
    exact ⟨fa j, Dj.mg hg.1, Dj.kp, ⟨fd j, dj.params, 2 * n + 2, ih j dj ej2 hg.2, hr.mono (by omega), k2, fun _ _ _ _ _ _ _ h => (callF_hot ej2 hg.2 h).1⟩⟩
  · rw [if_neg hg] at ez; cases ez
theorem fn_okX {prog : Program} {w : World} {K : PySem.W.Frag} {mg : Str → Option Value} {base : Heap} {E : Env3} {P : List FD3} {gl : Gs} {gls xs : List Str} {cs : List (Str × List Bool)} {ocs : List OC3} {fl : List Str} {ics : List (Str × List Bool)} {xf : List (Option Str)} {xfl : List Str} {fa : Nat → Addr} {fd : Nat → FuncData}
    (T : TopOk prog w K mg E P gl gls xs cs ocs fl ics xf xfl fa fd) : ∀ (n i : Nat) (d : FD3), P[i]? = some d → d.hot = true → ∀ (a : Addr) (oe : Obj) (cn : Nat) (dd : Option Addr), Zc (.ref (E.cls cn)) dd oe → (∃ vs, oe.data = .fields vs) → XfOk K E cn →
      FnX prog w K mg base (2 * n + 2) (fa i) (fd i) d.params (spF E (fun ws g x q => callF P gl n i (.exc a cn dd :: ws) g x q) d.params.length) (a, oe)
  | 0, i, d, e, _, a, oe, cn, dd, _, _, _ => ⟨fun vs H Q X h => h.1, fun A out s H args us vs Q _ _ _ _ _ h => by obtain ⟨_, ws, g, q, x, _, _, h, _⟩ := h; exact h.elim⟩
  | n + 1, i, d, e, hhot, a, oe, cn, dd, hz, hf, hx => by
    have D := T.defs i d e
    obtain ⟨qual, params, body, scope, oc, od, dV, kV, doc, pm, an, cdv, ct, osl, e1, lk, hcd, S, hc⟩ := D.ex
    rw [e1] at lk ⊢
    refine ⟨fun vs H Q X h => h.1, fun A out s H args us vs Q hr hpin e0 hb hv hsp => ?_⟩
    have hl : vs.length = d.params.length := hsp.1
    have hin : K.In s.heap := e0.mod.kin.keeps fun b o z => (e0.bs b o z).1
    have room : ∀ f, L2H.RoomH (2 * n + 3) (A.deeper f) := fun f => L2H.RoomH.deeper (k := 2 * n + 3) hr f
    have param : ∀ y ∈ d.params.zip us, scope.names.lookup y.1 = some .local ∨ (scope.names.lookup y.1 = some .cell ∧ ((cellsFrom (s.heap.objs.size + 1) scope.names []).lookup y.1).isSome = true) := by
      rintro ⟨y, u⟩ hy
      exact (S.par y (List.of_mem_zip hy).1).imp id fun z => ⟨z, PySem.W.cellsFrom_some _ _ _ (.inl z)⟩
    refine codeAny_call_function hr.depth (hin _ _ lk) rfl S.co S.gen rfl (PySem.W.codeRec_of hin hcd) (hb _ _ _ _ (wpAny_newFunctionEnv_cells S.kind param ?_))
    rintro env rfl s1 lay
    refine ⟨(e0.mod.nolimit.keeps fun b o z => (e0.bs b o z).1).keeps lay.toInCall.keep, codeAny_func ?_⟩
    have walk := hot_body (base := base) T (n := n) (k := 2 * n + 3) hhot (qual := qual) (f := fa i) (cdv := cdv) S hc (A := A) (out := out) (s := s) (H := H) (a := a) hz hf hx (room _) (hot_calls0 T (fn_okX T n))
    obtain ⟨_, ws, g, q, x, r, hg, h, kq, kx⟩ := hsp
    obtain ⟨hlw, m, em, h⟩ := callF_hot e hhot h
    cases em
    have I := L2H.inv_startH (CX := L2.CX prog w) (qual := qual) (f := fa i) (cd := cdv) (E := fun _ _ _ => False) S hpin e0 hl hv lay
    have no : ∀ {s' : Sx} {g' : G} {σ' : L2.St} {H' : Hp}, KN E g H (fun _ _ => False) (fun (_ : L2.St) (_ : Hp) => False) := fun _ _ _ _ _ _ _ z => z
    have lift : liftS E w0 (svs (callF P gl n) { gl with su := some (a, cn, dd) } d.body) { nx := fun _ H' => Q .non H', rt := Q } (L2.start d.slots vs) H := by
      refine ⟨_, g, _, ?_, hg, h, ⟨fun s' g' σ' H' _ hg' f hq => rtS_kq hg kq .non g' .non H' hg' rv_non f hq, rtS_kq hg kq, fun _ _ _ _ _ _ _ z => z.elim, fun _ _ _ _ _ _ _ z => z.elim, fun _ _ _ _ _ _ _ _ _ _ _ _ z => z.elim⟩⟩
      have e3 : L2.start d.slots vs = vs.map some ++ List.replicate (d.slots.length - d.params.length) none := by unfold L2.start; rw [hl]
      rw [e3]
      exact SR.start _ r
    refine wpAny_mono (walk.run [] s1 _ H _ I lift) (fun fl s' hs => ?_) fun _ _ z => z
    have fin : ∀ {σ' : L2.St} {H' : Hp} {v : V} {u : Value}, Inv (L2H.cxH (L2.CX prog w) prog w K mg base d.slots qual scope (fa i) cdv A out s H (fun _ _ _ => False) (a, oe)) [] σ' H' s' → RelV v u → Q v H' → CE out prog w H s Q u s' := fun {σ' H' v u} J rv hq => ⟨v, H', J.os, J.bare, J.base, J.hok, rv, hq⟩
    cases fl with
    | ret u => obtain ⟨v, σ', H', J, rv, hq⟩ := hs; exact fin J rv hq
    | next => obtain ⟨σ', H', J, hq⟩ := hs; exact fin (v := V.non) (u := Value.none) J rfl hq
    | brk => obtain ⟨_, _, _, z⟩ := hs; exact False.elim z
    | cont => obtain ⟨_, _, _, z⟩ := hs; exact False.elim z
theorem hot_calls {prog : Program} {w : World} {K : PySem.W.Frag} {mg : Str → Option Value} {base : Heap} {E : Env3} {P : List FD3} {gl : Gs} {gls xs : List Str} {cs : List (Str × List Bool)} {ocs : List OC3} {fl : List Str} {ics : List (Str × List Bool)} {xf : List (Option Str)} {xfl : List Str} {fa : Nat → Addr} {fd : Nat → FuncData}
    (T : TopOk prog w K mg E P gl gls xs cs ocs fl ics xf xfl fa fd) {n : Nat} (X1 : Cx) (hr : L2H.RoomH (2 * n + 3) X1.A) (q1 : X1.prog = prog) (q2 : X1.w = w) (q3 : X1.K = K) (q4 : X1.mg = mg) (q5 : X1.base = base) : ∀ i x, (P.map fun d => if d.glob = true ∧ d.hot = true then some d.gn else none)[i]? = some (some x) → HCallOk X1 E (callF P gl n i) x :=
  hot_calls0 (base := base) T (fn_okX T n) X1 hr q1 q2 q3 q4 q5
theorem fn_ok {prog : Program} {w : World} {K : PySem.W.Frag} {mg : Str → Option Value} {base : Heap} {E : Env3} {P : List FD3} {gl : Gs} {gls xs : List Str} {cs : List (Str × List Bool)} {ocs : List OC3} {fl : List Str} {ics : List (Str × List Bool)} {xf : List (Option Str)} {xfl : List Str} {fa : Nat → Addr} {fd : Nat → FuncData}
    (T : TopOk prog w K mg E P gl gls xs cs ocs fl ics xf xfl fa fd) : ∀ (n i : Nat) (d : FD3), P[i]? = some d → d.hot = false → FnOk prog w K mg base (L2.CX prog w) (2 * n + 2) (fa i) (fd i) d.params (spF E (callF P gl n i) d.params.length)
  | 0, i, d, e, _ => ⟨fun vs H Q X h => h.1, fun A outer s H args us vs Q X hr he hb hv h => by obtain ⟨_, ws, g, q, x, _, _, h, _⟩ := h; exact h.elim⟩
  | n + 1, i, d, e, hnh => by
    have D := T.defs i d e
    obtain ⟨qual, params, body, scope, oc, od, dV, kV, doc, pm, an, cdv, ct, osl, e1, lk, hcd, S, hc⟩ := D.ex
    rw [e1] at lk ⊢
    show FnOk prog w K mg base (L2.CX prog w) ((2 * n + 3) + 1) _ _ _ _
    refine fn_of lk hcd S (fun vs H Q X h => h.1) fun A outer s H vs Q X hr h => ?_
    obtain ⟨hl, ws, g, q, x, r, hg, h, kq, kx⟩ := h
    have hlw : ws.length = d.params.length := by rw [← r.length]; exact hl
    have run : ∀ (X1 : Cx), Room (2 * n + 3) X1.A → ∀ j dj, P[j]? = some dj → dj.hot = false → X1.prog = prog → X1.w = w → X1.K = K → X1.mg = mg → X1.base = base → DefRun X1 E (callF P gl n j) (fa j) := by
      intro X1 hr1 j dj ej2 hdj e1 e2 e3 e4 e5
      subst e1 e2 e3 e4 e5
      have Dj := T.defs j dj ej2
      refine ⟨fd j, dj.params, 2 * n + 2, fn_ok T n j dj ej2 hdj, hr1, fun ws g x q h => ?_⟩
      obtain ⟨l1, l2, l3, h'⟩ := callF_full ej2 hdj h
      obtain ⟨ds, dvs, hd, hB, hR⟩ := Dj.bind ws.length l1 l2
      exact ⟨ds, dvs, _, hd, hB, fun H => by rw [← T.hK]; exact hR H, l3, h'⟩
    have ok : CkOk (ckOf P gls xs cs ocs fl ics xf xfl d scope) (cxOf (L2.CX prog w) prog w K mg base d.slots qual scope (fa i) cdv A outer s H X) E (fun cls d _ H' => X cls d H') (callF P gl n) gl := {
      hK := T.hK
      hN := rfl
      nd := S.nd
      sc := rfl
      kind := S.kind
      calm := fun _ => rfl
      stk := fun _ => ⟨rfl, rfl⟩
      cs := fun p h => T.cs p h _ rfl rfl
      su := fun h => absurd (hnh.symm.trans h) (by decide)
      fn := fun _ _ => rfl
      tk := takes_of rfl rfl rfl rfl
      pass := passes_of rfl
      hu := by
        show (A.deeper (PyProof.Rows.envOfC qual scope s.heap.objs.size (fa i) cdv)).units + 100 < cLine
        have := hr.un
        omega
      blt := T.blt
      gls := T.gls
      fns := fun _ j y ej => by
        have ej' : (P.map fun d => if d.glob = true ∧ d.hot = false then some d.gn else none)[j]? = some (some y) := ej
        rw [List.getElem?_map, Option.map_eq_some_iff] at ej'
        obtain ⟨dj, ej2, ez⟩ := ej'
        by_cases hz : dj.glob = true ∧ dj.hot = false
        · rw [if_pos hz] at ez
          cases ez
          have Dj := T.defs j dj ej2
          exact ⟨fa j, Dj.mg hz.1, Dj.kp, run _ hr j dj ej2 hz.2 rfl rfl rfl rfl rfl⟩
        · rw [if_neg hz] at ez; cases ez
      goc := T.goc
      cl := ⟨T.on, T.fl, T.cls, T.noat⟩
      ob := fun _ => ⟨fun c oc m i h1 h2 => by
        obtain ⟨k1, dj, k2, k9⟩ := T.meth c oc m i h1 h2
        exact ⟨fa i, k1, run _ hr i dj k2 k9 rfl rfl rfl rfl rfl⟩, fun c oc h1 => by
        obtain ⟨k1, k2, k4, dj, k3, k9⟩ := T.mkr c oc h1
        exact ⟨fa oc.init, k1, k2, run _ hr oc.init dj k3 k9 rfl rfl rfl rfl rfl, k4⟩⟩
      ics := fun p h => T.ics p h _ rfl rfl
      xs := fun _ c y ec X' e1 e2 e3 e4 => T.xs c y ec X' e1 e2 e3 e4
      xfl := T.xfl
      hw := fun h => absurd (hnh.symm.trans h) (by decide)
      room := fun _ _ => hr.mono (by omega)
      hfn := fun _ => hot_calls T _ ⟨hr.dp, hr.un⟩ rfl rfl rfl rfl rfl }
    refine ⟨_, s_ss d.body ok hc, ?_⟩
    unfold callF at h
    rw [e] at h
    simp only [hnh] at h
    have e2 : d.dflt.drop (d.dflt.length + ws.length - d.params.length) = [] := List.drop_eq_nil_of_le (by omega)
    simp only [e2, List.append_nil] at h
    refine ⟨_, g, _, ?_, hg, h.2, ⟨?_, ?_, ?_, ?_, ?_⟩⟩
    · have e3 : L2.start d.slots vs = vs.map some ++ List.replicate (d.slots.length - d.params.length) none := by unfold L2.start; rw [hl]
      rw [e3]
      exact SR.start _ r
    · intro s' g' σ' H' _ hg' f hq
      exact rtS_kq hg kq .non g' .non H' hg' rv_non f hq
    · exact rtS_kq hg kq
    · intro _ _ _ _ _ _ _ z; exact z.elim
    · intro _ _ _ _ _ _ _ z; exact z.elim
    · intro c fs s' g' σ' cls y H' _ hg' hx f hq
      rcases hq with hq | ⟨he, hq⟩
      · exact kx c fs g' cls y H' hg' hx f hq
      · exact kx c fs g cls y H' (hg'.sub he) hx (f.sub he) hq
def spLaw3 (K : PySem.W.Frag) : Sp := fun vs H Q _ => ∃ (a : Addr) (ns : List Int), vs = [.ref a] ∧ SqL K H a (ns.map V.int) ∧ ns.length ≤ 63 ∧ (∀ z ∈ ns, z.natAbs < 2 ^ 1048576) ∧ Only H ∧ ∀ H', Q (.bl true) H'
theorem law_fn {prog : Program} {w : World} {K : PySem.W.Frag} {mg : Str → Option Value} {base : Heap} {E : Env3} {P : List FD3} {gl : Gs} {gls xs : List Str} {cs : List (Str × List Bool)} {ocs : List OC3} {fl : List Str} {ics : List (Str × List Bool)} {xf : List (Option Str)} {xfl : List Str} {fa : Nat → Addr} {fd : Nat → FuncData}
    (T : TopOk prog w K mg E P gl gls xs cs ocs fl ics xf xfl fa fd) {n i : Nat} {d : FD3} (e : P[i]? = some d) (hnh : d.hot = false) (hd : d.params.length = 1)
    (law : ∀ ns : List Int, ns.length ≤ 63 → (∀ z ∈ ns, z.natAbs < 2 ^ 1048576) → callF P gl n i [.scr (ns.map W.int)] (fun _ => none) (fun _ _ _ => False) (fun v _ => v = .bl true)) :
    FnOk prog w K mg base (L2.CX prog w) (2 * n + 2) (fa i) (fd i) d.params (spLaw3 K) := by
  refine (fn_ok T n i d e hnh).imp fun vs H Q X h => ?_
  obtain ⟨a, ns, rfl, hS, hl, hbt, hO, k⟩ := h
  refine ⟨hd.symm, _, fun _ => none, _, _, RVs.cons ?_ RVs.nil, (fun _ _ z => by cases z), law ns hl hbt, ?_, fun _ _ _ _ _ _ _ _ _ z => z.elim⟩
  · rw [RV, ← T.hK]
    refine ⟨a, _, rfl, ?_, RVs.of_ints ns⟩
    rcases hS with (hS | ⟨o, hS⟩) | hS
    · rcases hO a with z | ⟨o, xs, z⟩
      · rw [z] at hS; cases hS
      · rw [z] at hS; cases hS
    · exact .inl ⟨o, hS⟩
    · exact .inr (.inr hS)
  · intro v g' u H' _ r _ hv
    subst hv
    rw [RV] at r; subst r
    exact k H'
end L3
namespace L3
open PySem L2
theorem law_end {prog : Program} {w : World} {H : Hp} {s : Shared} {e : Value} {s' : Shared} (z : L2.CX prog w [] H s (fun _ _ _ => False) e s') : False := by
  obtain ⟨_, _, _, _, _, _, _, _, _, _, _, _, z⟩ := z
  exact z
end L3
namespace L3
theorem drop_nil3 {K : PySem.W.Frag} {H : L2.Hp} (n : Nat) : RVs K H (([] : List W).drop n) [] := by rw [List.drop_nil]; exact .nil
end L3
set_option maxRecDepth 100000
set_option maxHeartbeats 4000000
namespace L3
open PySem L2
def DD (g0 : G) (x : XK3) (q : VK3) : Ends3 := { nx := fun _ g => rtS g0 q .non g, rt := rtS g0 q, bk := fun _ _ => False, ct := fun _ _ => False, ex := fun c fs _ g => exS g0 x c fs g }
theorem rtS_same {g : G} {q : VK3} {w : W} : rtS g q w g = q w g := propext ⟨fun h => h.elim id And.right, .inl⟩
theorem exS_same {g : G} {x : XK3} {c : Nat} {fs : List (Str × W)} : exS g x c fs g = x c fs g := propext ⟨fun h => h.elim id And.right, .inl⟩
theorem rt_drop {g0 g : G} {q : VK3} {w : W} (e : Ext g0 g) (h : q w g0) : rtS g0 q w g := .inr ⟨e, h⟩
theorem rt_keep {g0 g : G} {q : VK3} {w : W} (h : q w g) : rtS g0 q w g := .inl h
theorem gdel_gup {g : G} {p : Addr} {o : GO} (h : g p = none) : gdel (gup g p o) p = g := by
  funext b; unfold gdel gup
  by_cases z : b = p
  · subst z; simp [h]
  · simp [z]
theorem frzS_lst {g : G} {p : Addr} {xs : List W} {q : VK3} (h : g p = some (.lst xs)) : frzS (.ref p) g q = q (.lv xs) (gdel g p) := by simp [frzS, h]
theorem frzS_gup {g : G} {p : Addr} {xs : List W} {q : VK3} : frzS (.ref p) (gup g p (.lst xs)) q = q (.lv xs) (gdel (gup g p (.lst xs)) p) := frzS_lst gup_same
theorem newF {g : G} {xs : List W} {q : VK3} (h : q (.lv xs) g) : newL g xs (fun w g1 => frzS w g1 q) := fun p hp => by
  show frzS (.ref p) (gup g p (.lst xs)) q
  rw [frzS_gup, gdel_gup hp]; exact h
section
variable {g : G} {q : VK3} {i : Int} {b : Bool} {x : Str} {xs : List W}
theorem frzS_int : frzS (.int i) g q = q (.int i) g := rfl
theorem frzS_bl : frzS (.bl b) g q = q (.bl b) g := rfl
theorem frzS_str : frzS (.str x) g q = q (.str x) g := rfl
theorem frzS_non : frzS .non g q = q .non g := rfl
theorem frzS_tup : frzS (.tup xs) g q = q (.tup xs) g := rfl
theorem frzS_lv : frzS (.lv xs) g q = q (.lv xs) g := rfl
theorem frzS_scr : frzS (.scr xs) g q = q (.scr xs) g := rfl
theorem seqAt_lv {k : List W → Prop} : seqAt g (.lv xs) k = k xs := rfl
end
theorem frzI_0 {o : W} {s : Sx} {g : G} {k : Sx → G → Prop} : frzI 0 (some o :: s) g k = frzS o g (fun w g1 => k (some w :: s) g1) := by
  unfold frzI frzS
  simp only [List.getElem?_cons_zero]
  cases o <;> rfl
theorem frzI_s {i : Nat} {o : Option W} {s : Sx} {g : G} {k : Sx → G → Prop} : frzI (i + 1) (o :: s) g k = frzI i s g (fun s' g1 => k (o :: s') g1) := by
  unfold frzI
  simp only [List.getElem?_cons_succ]
  cases s[i]? with
  | none => rfl
  | some u =>
    cases u with
    | none => rfl
    | some w => cases w <;> rfl
section
variable {CF : CF3} {gl : Gs}
theorem eVar_0 {x : XK3} {a : W} {s : Sx} {g : G} {q : VK3} : eVar 0 x (some a :: s) g q = q a g := by simp [eVar]
theorem eVar_s {x : XK3} {i : Nat} {o : Option W} {s : Sx} {g : G} {q : VK3} : eVar (i + 1) x (o :: s) g q = eVar i x s g q := by simp [eVar]
theorem ex_int {i : Int} {p : Int → Prop} : (∃ j, W.int i = W.int j ∧ p j) = p i := by simp
theorem ex_bl {i : Bool} {p : Bool → Prop} : (∃ j, W.bl i = W.bl j ∧ p j) = p i := by simp
theorem ex_str {i : Str} {p : Str → Prop} : (∃ j, W.str i = W.str j ∧ p j) = p i := by simp
theorem seqAt_tup {g : G} {xs : List W} {k : List W → Prop} : seqAt g (.tup xs) k = k xs := rfl
theorem seqAt_scr {g : G} {xs : List W} {k : List W → Prop} : seqAt g (.scr xs) k = k xs := rfl
theorem seqAt_ref {g : G} {a : Addr} {k : List W → Prop} : seqAt g (.ref a) k = lstAt g a k := rfl
theorem xor_f {b : Bool} : xor false b = b := by simp
theorem xor_t {b : Bool} : xor true b = !b := by simp
end
theorem mul_ok {i j : Int} {a b : Nat} (ha : i.natAbs < 2 ^ a) (hb : j.natAbs < 2 ^ b) (h : a + b ≤ 134217728) : IntMulOk i j := (mulx_ok ha hb h).ok
theorem pow_ok {i j : Int} {n : Nat} (h : i.natAbs < 2 ^ n) (h0 : 0 ≤ j) (hn : (n : Int) * j ≤ 134217728) : 0 ≤ j ∧ (Builtin.Int.intBits i : Int) * j ≤ 2 ^ 27 := by
  refine ⟨h0, ?_⟩
  have b : (Builtin.Int.intBits i : Int) ≤ n := by have := PyProof.Rows.intBits_le h; omega
  have e : (2 : Int) ^ 27 = 134217728 := by decide
  rw [e]
  exact Int.le_trans (Int.mul_le_mul_of_nonneg_right b h0) hn
theorem div_small {i j : Int} (h0 : j ≠ 0) (h : j.natAbs < 1073741824) : j ≠ 0 ∧ Builtin.divisionGoesByPylong i j = false := ⟨h0, PyProof.noPylong_small h⟩
theorem bits_mul {i j : Int} {a b : Nat} (ha : i.natAbs < 2 ^ a) (hb : j.natAbs < 2 ^ b) : (i * j).natAbs < 2 ^ (a + b) := by
  rw [Int.natAbs_mul, Nat.pow_add]
  exact Nat.mul_lt_mul'' ha hb
end L3
namespace L3
open PySem L2
theorem atI_n {α : Type} {xs : List α} {k : Nat} : atI xs (k : Int) = xs[k]? := by
  unfold atI ixN
  rw [if_pos (Int.natCast_nonneg k)]
  by_cases h : k < xs.length
  · rw [if_pos (by omega)]; simp
  · rw [if_neg (by omega)]; simp at h; simp [h]
theorem fmod_pos {a b : Int} (h : 0 < b) : a.fmod b = a % b := Int.fmod_eq_emod_of_nonneg a (Int.le_of_lt h)
end L3
namespace L3
open PySem L2
section
variable {T : String} {g : G} {q : VK3}
theorem isiS_int {i : Int} : isiS T (.int i) g q = q (.bl (isiB "int" T)) g := by simp [isiS, tyNm]
theorem isiS_bl {i : Bool} : isiS T (.bl i) g q = q (.bl (isiB "bool" T)) g := by simp [isiS, tyNm]
theorem isiS_str {i : Str} : isiS T (.str i) g q = q (.bl (isiB "str" T)) g := by simp [isiS, tyNm]
theorem isiS_non : isiS T .non g q = q (.bl (isiB "NoneType" T)) g := by simp [isiS, tyNm]
theorem isiS_tup {i : List W} : isiS T (.tup i) g q = q (.bl (isiB "tuple" T)) g := by simp [isiS, tyNm]
theorem isiS_lv {i : List W} : isiS T (.lv i) g q = q (.bl (isiB "list" T)) g := by simp [isiS, tyNm]
theorem isiS_scr {i : List W} : isiS T (.scr i) g q = q (.bl (isiB "list" T)) g := by simp [isiS, tyNm]
theorem isiS_lst {a : Addr} {xs : List W} (h : g a = some (.lst xs)) : isiS T (.ref a) g q = q (.bl (isiB "list" T)) g := by simp [isiS, tyNm, h]
theorem isiS_dic {a : Addr} {lk : Bool} {xs : List (L2.Key × W)} (h : g a = some (.dic lk xs)) : isiS T (.ref a) g q = q (.bl (isiB "dict" T)) g := by simp [isiS, tyNm, h]
end
theorem isi_ii : isiB "int" "int" = true := by decide
theorem isi_ib : isiB "int" "bool" = false := by decide
theorem isi_bb : isiB "bool" "bool" = true := by decide
theorem isi_bi : isiB "bool" "int" = true := by decide
theorem isi_tt : isiB "tuple" "tuple" = true := by decide
theorem isi_ll : isiB "list" "list" = true := by decide
theorem isi_ss : isiB "str" "str" = true := by decide
theorem isi_dd : isiB "dict" "dict" = true := by decide
theorem isi_si : isiB "str" "int" = false := by decide
theorem isi_ni : isiB "NoneType" "int" = false := by decide
theorem isi_ti : isiB "tuple" "int" = false := by decide
theorem isi_li : isiB "list" "int" = false := by decide
theorem isi_di : isiB "dict" "int" = false := by decide
theorem isi_lt : isiB "list" "tuple" = false := by decide
theorem isi_it : isiB "int" "tuple" = false := by decide
theorem isi_nt : isiB "NoneType" "tuple" = false := by decide
theorem isi_st : isiB "str" "tuple" = false := by decide
theorem isi_bt : isiB "bool" "tuple" = false := by decide
theorem if_t {a b : Prop} : (if true = true then a else b) = a := by simp
theorem if_f {a b : Prop} : (if false = true then a else b) = b := by simp
end L3
namespace L3
section
variable {CF : CF3} {gl : Gs}
theorem st_of {b : Ss3} {st : S3} {ss : Ss3} {D : Ends3} {s : Sx} {g : G} (e : b = .cons st ss) (h : sv CF gl st { D with nx := svs CF gl ss D } s g) : svs CF gl b D s g := by subst e; exact h
theorem st_K {b : Ss3} {st : S3} {ss : Ss3} {D : Ends3} {s : Sx} {g : G} (e : b = .cons st ss) (h : ∀ K : Sx → G → Prop, (∀ s g, svs CF gl ss D s g → K s g) → sv CF gl st { D with nx := K } s g) : svs CF gl b D s g := by subst e; exact h _ fun _ _ h => h
theorem nl_of {D : Ends3} {s : Sx} {g : G} (h : D.nx s g) : svs CF gl .nil D s g := h
end
end L3
set_option maxRecDepth 100000
set_option maxHeartbeats 4000000
namespace L3
open PySem PySem.Spec L2
def xiOf : List Stmt → Option (Str × Str × Str × Str)
  | [.Expr (.Call (.Attribute (.Name y _) m ap) [.Name s1 _, .Constant (.str _) _ _] [] p) _, .Assign [.Attribute (.Name s2 _) fld _] (.Name par _) _] =>
    if decide (m = ("__init__" : Str)) && (ap.endLine == p.line) && decide (s1 = s2) then some (y, s1, fld, par) else none
  | _ => none
structure BaseRd (K : PySem.W.Frag) (C : Addr) : Prop where
  rd : PySem.W.readsIn K C (.type "type") = true
  ga : PySem.W.specialIn K (.ref C) "__getattribute__" = some (some (.builtin "type.__getattribute__"))
  at_ : PySem.W.findCls K (.ref C) (.type "type") "__init__" = some (.val (.builtin "ValueError.__init__"))
section
variable {X : Cx} {sf par y fld z : Str} {C B : Addr}
structure XfK (K : PySem.W.Frag) (mg : Str → Option Value) (x f : Str) (C fI : Addr) (fd : FuncData) : Prop where
  T : OexC K C
  iC : PySem.W.findIn K (.ref C) "__init__" = some (some (.ref fI))
  tI : PySem.W.typeIn K (.ref fI) = some (.type "function")
  no : PySem.W.findIn K (.ref C) f = some none
  mx : mg x = some (.ref C)
  ex : ∃ (y sf par qual : Str) (params : Arguments) (body : List Stmt) (scope : Scope) (B : Addr), FunD K "__init__" qual params body scope [] [] fI fd ∧ xiOf body = some (y, sf, f, par) ∧ FnScope [sf, par] [sf, par] scope ∧ scope.names.lookup sf = some .local ∧ scope.names.lookup par = some .local ∧
    scope.names.lookup y = some .globalImplicit ∧ nmOk y = true ∧ nmOk sf = true ∧ nmOk par = true ∧ mg y = some (.ref B) ∧ BaseRd K B ∧ Binds K fd [sf, par] []
end
def oexB (K : PySem.W.Frag) (C : Addr) : Bool := match K.lookup C with
  | some o => (match o.cls, o.data, o.slots.toList with
    | .type t, .cls cd, [_, _, _, _, some (.builtin n), _] => (match cd.mro with
      | .ref D :: bm => decide (t = "type") && (decide (D = C) && (decide (n = "ValueError.__new__") && (!cd.hasDel && (cd.hasDict && HandSPX.refsVE bm))))
      | _ => false)
    | _, _, _ => false)
  | none => false
def eqv1 (a b : Option (Option Value)) : Bool := decide (a = b)
def valB (r : Option PySem.W.CFound) (n : String) : Bool := match r with
  | some (.val (.builtin b)) => decide (b = n)
  | _ => false
def xfkB (K : PySem.W.Frag) (x y f : Str) : Bool :=
  oexB K (He.ga K x) && (eqv1 (PySem.W.findIn K (.ref (He.ga K x)) "__setattr__") (some (some (.builtin "object.__setattr__"))) && (decide (PySem.W.subIn K (.ref (He.ga K x)) (.type "BaseException") = some true) && (decide (PySem.W.typeIn K (.ref (He.ga K x)) = some (.type "type")) &&
  (PySem.W.keepIn K (.ref (He.ga K x)) && (eqv1 (PySem.W.findIn K (.ref (He.ga K x)) "__init__") (some (some (.ref (He.ma K (He.ga K x) "__init__")))) && (decide (PySem.W.typeIn K (.ref (He.ma K (He.ga K x) "__init__")) = some (.type "function")) &&
  (eqv1 (PySem.W.findIn K (.ref (He.ga K x)) f) (some none) && (eqv1 (PySem.W.nsIn K mainGlobals x) (some (some (.ref (He.ga K x)))) && (eqv1 (PySem.W.nsIn K mainGlobals y) (some (some (.ref (He.ga K y)))) &&
  (PySem.W.readsIn K (He.ga K y) (.type "type") && (eqv1 (PySem.W.specialIn K (.ref (He.ga K y)) "__getattribute__") (some (some (.builtin "type.__getattribute__"))) && valB (PySem.W.findCls K (.ref (He.ga K y)) (.type "type") "__init__") "ValueError.__init__")))))))))))
end L3
set_option maxRecDepth 100000
set_option maxHeartbeats 4000000
namespace L3
open PySem PySem.Spec L2
section
variable {K : PySem.W.Frag} {mg : Str → Option Value} {P : List FD3} {gls xs : List Str} {cs : List (Str × List Bool)} {ocs : List OC3} {fl : List Str} {ics : List (Str × List Bool)} {xf : List (Option Str)} {xfl : List Str} {d : FD3} {st : Stmt} {q : Str} {f : Addr} {fd : FuncData} {dvs : List V}
theorem defOk_N (F : FunD K d.name q (defArgs st) (defBody st) (defScope st) [] [] f fd) (S : FnScope d.slots d.params (defScope st)) (hc : chkSs d.body (ckOf P gls xs cs ocs fl ics xf xfl d (defScope st)) (defBody st) = true) (g : d.glob = true → mg d.gn = some (.ref f)) (hd : d.dflt = [])
    (hb : ∀ (kV doc pm : Value) (an : Option Addr) (cdv ct : Value) (us : List Value), us.length = d.params.length → bindArgs (PySem.W.fnOf d.name q (defArgs st) (defBody st) (defScope st) .none kV doc pm an cdv ct) ⟨us, []⟩ = pure (d.params.zip us)) : DefOk K mg P gls xs cs ocs fl ics xf xfl d f fd := by
  have hB := F.bindsN hb
  have kp := F.kp
  obtain ⟨oc, od, dV, kV, doc, pm, an, cdv, ct, osl, e, lk, hcd, _, _⟩ := F.ex
  refine ⟨⟨q, _, _, _, oc, od, dV, kV, doc, pm, an, cdv, ct, osl, e, lk, hcd, S, hc⟩, kp, g, fun m h1 h2 => ⟨[], [], .nil, hB, fun H => ?_⟩⟩
  rw [hd]
  exact drop_nil3 _
theorem defOk_D (F : FunD K d.name q (defArgs st) (defBody st) (defScope st) dvs [] f fd) (S : FnScope d.slots d.params (defScope st)) (hc : chkSs d.body (ckOf P gls xs cs ocs fl ics xf xfl d (defScope st)) (defBody st) = true) (g : d.glob = true → mg d.gn = some (.ref f))
    (hd : dvs ≠ []) (hn : dvs.length = d.dflt.length) (hr : ∀ H n, RVs K H (d.dflt.drop n) (dvs.drop n))
    (hb : ∀ m, m ≤ d.params.length → d.params.length ≤ m + dvs.length → ∀ (T : Addr) (kV doc pm : Value) (an : Option Addr) (cdv ct : Value) (us its : List Value), us.length = m → its.length = dvs.length →
      ∃ k, bindArgs (PySem.W.fnOf d.name q (defArgs st) (defBody st) (defScope st) (.ref T) kV doc pm an cdv ct) ⟨us, []⟩ = seqItems? (.ref T) >>= k ∧ k (some its.toArray) = pure (d.params.zip (us ++ its.drop (dvs.length + m - d.params.length)))) : DefOk K mg P gls xs cs ocs fl ics xf xfl d f fd := by
  have kp := F.kp
  have hB := fun m h1 h2 => F.binds1 (ps := d.params) m (dvs.length + m - d.params.length) hd (by omega) (hb m h1 h2)
  obtain ⟨oc, od, dV, kV, doc, pm, an, cdv, ct, osl, e, lk, hcd, _, _⟩ := F.ex
  refine ⟨⟨q, _, _, _, oc, od, dV, kV, doc, pm, an, cdv, ct, osl, e, lk, hcd, S, hc⟩, kp, g, fun m h1 h2 => ?_⟩
  rw [← hn] at h2
  obtain ⟨ds, v, b⟩ := hB m h1 h2
  refine ⟨ds, _, v, b, fun H => ?_⟩
  rw [← hn]
  exact hr H _
theorem gl_int {E : Env3} {h : Heap} {x : Str} {z : Int} (X : K.In h) (G : h.Ns mainGlobals mg) (c : (He.Fa.int x z).ok K = true) : ∃ u v, mg x = some u ∧ RelV v u ∧ ∀ H, RV E.K H (.int z) v := by
  obtain ⟨t, e⟩ := He.int_ok X G c
  exact ⟨_, .int z, e, ⟨t, rfl⟩, fun H => rv_int⟩
theorem gls_nil {E : Env3} {gl : Nat → W} : ∀ i x, ([] : List Str)[i]? = some x → ∃ u v, mg x = some u ∧ RelV v u ∧ ∀ H, RV E.K H (gl i) v := fun i x e => by simp at e
theorem gls_cons {E : Env3} {y : Str} {l : List Str} {gl : Nat → W} (h : ∃ u v, mg y = some u ∧ RelV v u ∧ ∀ H, RV E.K H (gl 0) v) (r : ∀ i x, l[i]? = some x → ∃ u v, mg x = some u ∧ RelV v u ∧ ∀ H, RV E.K H (gl (i + 1)) v) :
    ∀ i x, (y :: l)[i]? = some x → ∃ u v, mg x = some u ∧ RelV v u ∧ ∀ H, RV E.K H (gl i) v
  | 0, x, e => by simp at e; subst e; exact h
  | i + 1, x, e => r i x (by simpa using e)
end
end L3
namespace L3
open PySem PySem.Spec L2
theorem bits_lt {z : Int} {n : Nat} (h : Builtin.Int.intBits z ≤ n) : z.natAbs < 2 ^ n := by
  exact intBits_le_iff.mp h
theorem walk3 {lw : PySem.W.OpenLaw} {lv : Nat} {vw : Program} {lo : List Str} {XP : (Str → Option Value) → Heap → Prop} {YP : World → Heap → Prop} {dr : DefRec} {par : Str}
    (most : lw.most = some 63) (nodf : dr.params.defaults = []) (room : Room lv callerA)
    (F : ∀ (w : World) (mg : Str → Option Value) (fa : Addr) (h : Heap), YP w h → h.Ns mainGlobals mg → mg dr.name = some (.ref fa) →
      ∃ (K : PySem.W.Frag) (fd : FuncData), K.In h ∧ (∀ (s : Shared) (u : Value), BindsTo s fd ⟨[u], []⟩ [(par, u)]) ∧
        ∀ base : Heap, K.In base → base.Ns mainGlobals mg → FnOk lw.prog w K mg base (L2.CX lw.prog w) lv fa fd [par] (spLaw3 K)) :
    PySem.W.WalkO vw lo XP YP lw.row.toRowW dr [] (fun f vs => PySem.call f vs) := by
  refine Att.attach_callB most nodf fun w s₀ st mg mb fa obj pm cdv doc adr vs zs GG YY h1 h2 h3 hmg h4 h5 h6 h8 h7 => ?_
  have ⟨K, fd, hK, hb, hF⟩ := F w mg fa _ YY GG.T.g hmg
  refine law_call hK GG.T.g GG.T.b GG.T.builtins GG.T.nolimit h7 h4 h5 (Nat.le_trans h6 (by decide)) room hF hb (fun H hO hS => ?_) fun H e s' z => law_end z
  exact ⟨adr, zs, rfl, hS, h6, fun z hz => bits_lt (h8 z hz), hO, fun _ => rfl⟩
theorem rvs_drop {K : PySem.W.Frag} {xs : List W} {vs : List V} (h : ∀ H, RVs K H xs vs) : ∀ H n, RVs K H (xs.drop n) (vs.drop n) := fun H n => (h H).drop n
end L3
namespace L3
open PySem PySem.Spec L2
def clsE (K : PySem.W.Frag) (xs : List Str) : Nat → Addr := fun c => He.ga K (xs.getD c "")
def clsVal (K : PySem.W.Frag) (y : Str) : Option String → V
  | none => .ref (He.ga K y)
  | some T => .ty T
def clsValue (K : PySem.W.Frag) (y : Str) : Option String → Value
  | none => .ref (He.ga K y)
  | some T => .type T
def eqs (a b : Option (Option Value)) : Bool := decide (a = b)
def excCB (K : PySem.W.Frag) (D : Addr) : Bool := eqs (PySem.W.findIn K (.ref D) "__getattribute__") (some (some (.builtin "BaseException.__getattribute__"))) && (eqs (PySem.W.findIn K (.ref D) "__getattr__") (some none) &&
  (decide (PySem.W.subIn K (.ref D) (.type "BaseException") = some true) && (PySem.W.hasDictIn K D && (eqs (PySem.W.findIn K (.ref D) "__class__") (some (some (.builtin "object.__class__"))) &&
  (eqs (PySem.W.specialIn K (.builtin "object.__class__") "__get__") (some (some (.builtin "getset_descriptor.__get__"))) && (decide (PySem.W.takesIn K (.builtin "object.__class__") = some true) && decide (PySem.W.mroIn K D (.type "object") = some true)))))))
theorem excCB_ok {K : PySem.W.Frag} {D : Addr} (h : excCB K D = true) : ExcC K D := by
  obtain ⟨h1, h⟩ := bool_and h
  obtain ⟨h2, h⟩ := bool_and h
  obtain ⟨h3, h⟩ := bool_and h
  obtain ⟨h4, h⟩ := bool_and h
  obtain ⟨h5, h⟩ := bool_and h
  obtain ⟨h6, h⟩ := bool_and h
  obtain ⟨h7, h8⟩ := bool_and h
  exact ⟨of_decide_eq_true h1, of_decide_eq_true h2, of_decide_eq_true h3, h4, of_decide_eq_true h5, of_decide_eq_true h6, of_decide_eq_true h7, of_decide_eq_true h8⟩
abbrev CsD : Type := Str × Option String × List Bool
def csB1 (xfl : List Str) (K : PySem.W.Frag) (xs : List Str) (c : CsD) (k : Nat) : Bool := match c.2.2[k]? with
  | none => true
  | some b => decide (PySem.W.kitOne K (.ref (clsE K xs k)) (clsValue K c.1 c.2.1) = some b) && (decide (PySem.W.exmOne K (.ref (clsE K xs k)) (clsValue K c.1 c.2.1) = some b) && (excCB K (clsE K xs k) && (xfB K (clsE K xs k) && xfl.all fun f => eqs (PySem.W.findIn K (.ref (clsE K xs k)) f) (some none))))
def csB (xfl : List Str) (xs : List Str) (cd : List CsD) (K : PySem.W.Frag) : Bool := cd.all fun c => decide (c.2.2.length ≤ xs.length) && ((List.range xs.length).all (csB1 xfl K xs c) && (match c.2.1 with
  | none => eqs (PySem.W.nsIn K mainGlobals c.1) (some (some (.ref (He.ga K c.1))))
  | some T => eqs (PySem.W.nsIn K mainGlobals c.1) (some none) && (decide (bootBuiltins c.1 = some (.type T)) && decide (c.1 ≠ "__name__"))))
theorem csB_ok {X : Cx} {E : Env3} {h : Heap} {xs xfl : List Str} {cd : List CsD} (hE : E.cls = clsE X.K xs) (hX : E.xfl = xfl) (Xi : X.K.In h) (G : h.Ns mainGlobals X.mg) (c : csB xfl xs cd X.K = true) : ∀ p ∈ cd.map fun d => (d.1, d.2.2), ClsFact X E p.1 p.2 := by
  intro p hp
  obtain ⟨d, hd, rfl⟩ := List.mem_map.mp hp
  obtain ⟨y, o, row⟩ := d
  obtain ⟨k1, k⟩ := bool_and (List.all_eq_true.mp c _ hd)
  obtain ⟨k2, k3⟩ := bool_and k
  have k1 := of_decide_eq_true k1
  refine ⟨clsVal X.K y o, clsValue X.K y o, ?_, ?_, ?_, fun k b e => ?_⟩
  · cases o <;> rfl
  · cases o <;> exact fun u h => h
  · cases o with
    | none => exact .inl (PySem.W.mg_of Xi G (of_decide_eq_true k3))
    | some T =>
      obtain ⟨j1, j2⟩ := bool_and k3
      obtain ⟨j2, j3⟩ := bool_and j2
      exact .inr ⟨PySem.W.mg_none_of Xi G (of_decide_eq_true j1), of_decide_eq_true j2, of_decide_eq_true j3⟩
  · have hk : k < xs.length := by
      have := (List.getElem?_eq_some_iff.mp e).1
      exact Nat.lt_of_lt_of_le this k1
    have z := List.all_eq_true.mp k2 k (List.mem_range.mpr hk)
    unfold csB1 at z
    have e' : (y, o, row).2.2[k]? = some b := e
    rw [e'] at z
    obtain ⟨z1, z2⟩ := bool_and z
    obtain ⟨z2, z3⟩ := bool_and z2
    obtain ⟨z3, z4⟩ := bool_and z3
    obtain ⟨z4, z5⟩ := bool_and z4
    rw [hE]
    refine ⟨of_decide_eq_true z1, of_decide_eq_true z2, excCB_ok z3, by rw [hE]; exact xfB_ok z4, fun f hf => ?_⟩
    rw [hE]
    rw [hX] at hf
    exact of_decide_eq_true (List.all_eq_true.mp z5 f hf)
theorem raiseOk_of {X : Cx} {E : Env3} {c : Nat} {x : Str} (hE : E.cls c = He.ga X.K x) (f : (He.Fa.exc x).ok X.K = true) (gC : X.mg x = some (.ref (He.ga X.K x))) (hx : (x == ("__debug__" : Str)) = false) : RaiseOk X E c x := by
  obtain ⟨h1, h2, h3, h4⟩ := He.exc_ok f
  refine ⟨fun hg p m j p2 pos => ?_⟩
  rw [hE]
  exact pmk_own PySem.F.excBase_ValueError h1 gC h2 (raises_own h3 h4) hg hx
theorem xs_nil {Y : Nat → Str → Prop} : ∀ c x, ([] : List Str)[c]? = some x → Y c x := fun c x e => by simp at e
theorem xs_cons {y : Str} {l : List Str} {Y : Nat → Str → Prop} (h : Y 0 y) (r : ∀ c x, l[c]? = some x → Y (c + 1) x) : ∀ c x, (y :: l)[c]? = some x → Y c x
  | 0, x, e => by simp at e; subst e; exact h
  | c + 1, x, e => r c x (by simpa using e)
def asY (g : Addr → Option Obj) (n : Nat) : List Addr := He.asD g n ++ [cStatics]
def obsY (n : Nat) (fa : List He.Fa) (fn : List He.DefD) (ex : PySem.W.Frag → Bool) (g : Addr → Option Obj) : He.AlX := (He.obsT fa fn [] (He.frT g (asY g n)), ex (He.frT g (asY g n)))
def hookY (n : Nat) (fa : List He.Fa) (fn : List He.DefD) (ex : PySem.W.Frag → Bool) : PySem.W.Hook where
  α := He.AlX
  obs := fun s => obsY n fa fn ex s.heap.get?
  val := fun w => He.valX fn [] w
  says := fun w h => ∃ K : PySem.W.Frag, K.In h ∧ He.SaysX fa fn [] [] ex w h K
  of := fun w s e => ⟨He.frT s.heap.get? (asY s.heap.get? n), He.frT_in, (congrArg (fun z : He.AlX => z.1) e : He.obsT fa fn [] (He.frT s.heap.get? (asY s.heap.get? n)) = He.valT fn [] w), (congrArg (fun z : He.AlX => z.2) e : ex (He.frT s.heap.get? (asY s.heap.get? n)) = true), (fun _ h => nomatch h), (fun _ h => nomatch h), (fun _ h => nomatch h)⟩
  keeps := fun _ _ _ ⟨K, hK, c⟩ k => ⟨K, PySem.W.Frag.In.keeps hK k, ⟨c.t, c.more, c.hd, c.out, fun p hp => k _ _ (c.empty p hp)⟩⟩
theorem obsY_eq {n : Nat} {fa : List He.Fa} {fn : List He.DefD} {ex : PySem.W.Frag → Bool} {g : Addr → Option Obj} {s : Shared} (h : ∀ a, g a = s.heap.get? a) : obsY n fa fn ex g = (hookY n fa fn ex).obs s := by
  have e : g = s.heap.get? := funext h
  rw [e] <;> rfl
def obsL (as : List Addr) (fa : List He.Fa) (fn : List He.DefD) (ex : PySem.W.Frag → Bool) (g : Addr → Option Obj) : He.AlX := (He.obsT fa fn [] (He.frT g as), ex (He.frT g as))
def hookL (as : List Addr) (fa : List He.Fa) (fn : List He.DefD) (ex : PySem.W.Frag → Bool) : PySem.W.Hook where
  α := He.AlX
  obs := fun s => obsL as fa fn ex s.heap.get?
  val := fun w => He.valX fn [] w
  says := fun w h => ∃ K : PySem.W.Frag, K.In h ∧ He.SaysX fa fn [] [] ex w h K
  of := fun w s e => ⟨He.frT s.heap.get? as, He.frT_in, (congrArg (fun z : He.AlX => z.1) e : He.obsT fa fn [] (He.frT s.heap.get? as) = He.valT fn [] w), (congrArg (fun z : He.AlX => z.2) e : ex (He.frT s.heap.get? as) = true), (fun _ h => nomatch h), (fun _ h => nomatch h), (fun _ h => nomatch h)⟩
  keeps := fun _ _ _ ⟨K, hK, c⟩ k => ⟨K, PySem.W.Frag.In.keeps hK k, ⟨c.t, c.more, c.hd, c.out, fun p hp => k _ _ (c.empty p hp)⟩⟩
theorem says_fact {fa : List He.Fa} {fn : List He.DefD} {ex : PySem.W.Frag → Bool} {w : World} {h : Heap} {K : PySem.W.Frag} (c : He.SaysX fa fn [] [] ex w h K) : He.SaysD fa fn K ∧ ex K = true :=
  ⟨congrArg (fun z : He.AlT => z.1) c.t, c.more⟩
def calmD (P : List FD3) (i : Nat) : Bool := match P[i]? with
  | some d => !d.hot
  | none => false
theorem calmD_ok {P : List FD3} {i : Nat} (h : calmD P i = true) : ∃ d, P[i]? = some d ∧ d.hot = false := by
  unfold calmD at h
  split at h
  · rename_i d e; exact ⟨d, e, bool_not h⟩
  · cases h
def oclE (K : PySem.W.Frag) (ocs : List OC3) : Nat → Addr := fun c => He.ga K ((ocs.map (·.name)).getD c "")
def valIs (r : Option PySem.W.CFound) (a : Addr) : Bool := match r with
  | some (.val (.ref b)) => decide (b = a)
  | _ => false
theorem valIs_ok {r : Option PySem.W.CFound} {a : Addr} (h : valIs r a = true) : r = some (.val (.ref a)) := by
  unfold valIs at h
  split at h
  · rw [of_decide_eq_true h]
  · cases h
def irB (K : PySem.W.Frag) (C fa : Addr) : Bool := PySem.W.readsIn K C (.type "type") && (eqs (PySem.W.specialIn K (.ref C) "__getattribute__") (some (some (.builtin "type.__getattribute__"))) && (valIs (PySem.W.findCls K (.ref C) (.type "type") "__init__") fa && PySem.W.keepIn K (.ref fa)))
theorem irB_ok {K : PySem.W.Frag} {C fa : Addr} (h : irB K C fa = true) : InitRd K C fa := by
  obtain ⟨h1, h⟩ := bool_and h
  obtain ⟨h2, h⟩ := bool_and h
  obtain ⟨h3, h4⟩ := bool_and h
  exact ⟨h1, of_decide_eq_true h2, valIs_ok h3, h4⟩
def obB1 (K : PySem.W.Frag) (fl : List Str) (fp : List (Str × Option Str)) (oc : OC3) : Bool :=
  (He.Fa.cls oc.name).ok K && ((He.Fa.glo oc.name).ok K && ((He.Fa.mkr oc.name).ok K && (decide (He.ma K (He.ga K oc.name) "__init__" = He.fAd K (fp.getD oc.init ("", none))) &&
    (fl.all (fun f => (He.Fa.noat oc.name f).ok K) && (irB K (He.ga K oc.name) (He.ma K (He.ga K oc.name) "__init__") && oc.meths.all fun m => (He.Fa.meth oc.name m.1).ok K && decide (He.ma K (He.ga K oc.name) m.1 = He.fAd K (fp.getD m.2 ("", none))))))))
def obB (ocs : List OC3) (fl : List Str) (fp : List (Str × Option Str)) (K : PySem.W.Frag) : Bool := ocs.all (obB1 K fl fp)
section
variable {K : PySem.W.Frag} {ocs : List OC3} {fl : List Str} {fp : List (Str × Option Str)} {i : Nat} {oc : OC3}
theorem oclE_at (h : ocs[i]? = some oc) : oclE K ocs i = He.ga K oc.name := by
  unfold oclE
  rw [List.getD_eq_getElem?_getD, List.getElem?_map, h]; rfl
theorem ob_at (c : obB ocs fl fp K = true) (h : ocs[i]? = some oc) : obB1 K fl fp oc = true := List.all_eq_true.mp c _ (List.mem_of_getElem? h)
theorem ob_cls (c : obB ocs fl fp K = true) : ∀ i, i < ocs.length → Cls K (oclE K ocs i) := fun i hi => by
  have h := List.getElem?_eq_getElem hi
  rw [oclE_at h]
  exact He.cls_ok (bool_and (ob_at c h)).1
theorem ob_noat (c : obB ocs fl fp K = true) : ∀ i, i < ocs.length → ∀ f ∈ fl, NoAttr K (oclE K ocs i) f := fun i hi f hf => by
  have h := List.getElem?_eq_getElem hi
  rw [oclE_at h]
  have k := (bool_and (bool_and (bool_and (bool_and (bool_and (ob_at c h)).2).2).2).2).1
  exact He.noat_ok (List.all_eq_true.mp k f hf)
theorem lookup_mem {α : Type} {m : Str} {x : α} : ∀ {l : List (Str × α)}, l.lookup m = some x → (m, x) ∈ l
  | [], h => by cases h
  | (a, y) :: l, h => by
    rw [List.lookup_cons] at h
    cases e : (m == a) with
    | true => rw [e] at h; cases h; rw [eq_of_beq e]; exact List.mem_cons_self
    | false => rw [e] at h; exact List.mem_cons_of_mem _ (lookup_mem h)
theorem ob_meth (c : obB ocs fl fp K = true) {P : List FD3} (hn : ocs.all (fun oc => calmD P oc.init && oc.meths.all fun m => calmD P m.2) = true) :
    ∀ i oc m j, ocs[i]? = some oc → oc.meths.lookup m = some j → Meth K (oclE K ocs i) m (He.fAd K (fp.getD j ("", none))) ∧ ∃ d, P[j]? = some d ∧ d.hot = false := fun i oc m j h hm => by
  rw [oclE_at h]
  have k := (bool_and (bool_and (bool_and (bool_and (bool_and (bool_and (ob_at c h)).2).2).2).2).2).2
  obtain ⟨k1, k2⟩ := bool_and (List.all_eq_true.mp k _ (lookup_mem hm))
  have k3 := of_decide_eq_true k2
  have k4 := He.meth_ok k1
  have k3 : He.ma K (He.ga K oc.name) m = He.fAd K (fp.getD j ("", none)) := k3
  rw [← k3]
  exact ⟨k4, calmD_ok (List.all_eq_true.mp (bool_and (List.all_eq_true.mp hn oc (List.mem_of_getElem? h))).2 _ (lookup_mem hm))⟩
theorem ob_mkr {mg : Str → Option Value} {h0 : Heap} (X : K.In h0) (G : h0.Ns mainGlobals mg) (c : obB ocs fl fp K = true) {P : List FD3} (hn : ocs.all (fun oc => calmD P oc.init && oc.meths.all fun m => calmD P m.2) = true) :
    ∀ i oc, ocs[i]? = some oc → Mk K (oclE K ocs i) (He.fAd K (fp.getD oc.init ("", none))) ∧ mg oc.name = some (.ref (oclE K ocs i)) ∧ InitRd K (oclE K ocs i) (He.fAd K (fp.getD oc.init ("", none))) ∧ ∃ d, P[oc.init]? = some d ∧ d.hot = false := fun i oc h => by
  rw [oclE_at h]
  obtain ⟨_, k⟩ := bool_and (ob_at c h)
  obtain ⟨k1, k⟩ := bool_and k
  obtain ⟨k2, k⟩ := bool_and k
  obtain ⟨k3, k⟩ := bool_and k
  have k3 := of_decide_eq_true k3
  rw [← k3]
  have k4 := (bool_and (bool_and k).2).1
  exact ⟨He.mkr_ok k2, He.glo_ok X G k1, irB_ok k4, calmD_ok (bool_and (List.all_eq_true.mp hn oc (List.mem_of_getElem? h))).1⟩
end
def icB1 (K : PySem.W.Frag) (ocs : List OC3) (y : Str) (row : List Bool) (c : Nat) : Bool := match row[c]? with
  | none => true
  | some b => decide (PySem.W.kitOne K (.ref (oclE K ocs c)) (.ref (He.ga K y)) = some b) && (eqs (PySem.W.findIn K (.ref (oclE K ocs c)) "__class__") (some (some (.builtin "object.__class__"))) &&
    (eqs (PySem.W.specialIn K (.builtin "object.__class__") "__get__") (some (some (.builtin "getset_descriptor.__get__"))) && (decide (PySem.W.takesIn K (.builtin "object.__class__") = some true) && decide (PySem.W.mroIn K (oclE K ocs c) (.type "object") = some true))))
def icB (ocs : List OC3) (ics : List (Str × List Bool)) (K : PySem.W.Frag) : Bool := ics.all fun p => eqs (PySem.W.nsIn K mainGlobals p.1) (some (some (.ref (He.ga K p.1)))) && (decide (p.2.length ≤ 100) && (List.range 100).all (icB1 K ocs p.1 p.2))
theorem icB_ok {X : Cx} {E : Env3} {h : Heap} {ocs : List OC3} {ics : List (Str × List Bool)} (hE : E.ocl = oclE X.K ocs) (Xi : X.K.In h) (G : h.Ns mainGlobals X.mg) (c : icB ocs ics X.K = true) : ∀ p ∈ ics, IscFact X E p.1 p.2 := by
  intro p hp
  obtain ⟨k1, k⟩ := bool_and (List.all_eq_true.mp c _ hp)
  obtain ⟨k2, k3⟩ := bool_and k
  refine ⟨He.ga X.K p.1, PySem.W.mg_of Xi G (of_decide_eq_true k1), fun c b e => ?_⟩
  have hc : c < 100 := Nat.lt_of_lt_of_le (List.getElem?_eq_some_iff.mp e).1 (of_decide_eq_true k2)
  have z := List.all_eq_true.mp k3 c (List.mem_range.mpr hc)
  unfold icB1 at z
  rw [e] at z
  obtain ⟨z1, z⟩ := bool_and z
  obtain ⟨z2, z⟩ := bool_and z
  obtain ⟨z3, z⟩ := bool_and z
  obtain ⟨z4, z5⟩ := bool_and z
  rw [hE]
  exact ⟨of_decide_eq_true z1, of_decide_eq_true z2, of_decide_eq_true z3, of_decide_eq_true z4, of_decide_eq_true z5⟩
end L3
set_option maxRecDepth 100000
set_option maxHeartbeats 4000000
namespace L3
open PySem L2 PySem.W
class Bt (i : Int) (n : outParam Nat) : Prop where
  lt : i.natAbs < 2 ^ n
instance bt_mul {i j : Int} {a b : Nat} [ha : Bt i a] [hb : Bt j b] : Bt (i * j) (a + b) := ⟨bits_mul ha.lt hb.lt⟩
theorem two_pow_max {a b x y : Nat} (ha : x < 2 ^ a) (hb : y < 2 ^ b) : x + y < 2 ^ (max a b + 1) := by
  have h1 := Nat.pow_le_pow_right (show 0 < 2 by decide) (Nat.le_max_left a b)
  have h2 := Nat.pow_le_pow_right (show 0 < 2 by decide) (Nat.le_max_right a b)
  rw [Nat.pow_succ]; omega
instance bt_add {i j : Int} {a b : Nat} [ha : Bt i a] [hb : Bt j b] : Bt (i + j) (max a b + 1) := ⟨Nat.lt_of_le_of_lt (by omega) (two_pow_max ha.lt hb.lt)⟩
instance bt_sub {i j : Int} {a b : Nat} [ha : Bt i a] [hb : Bt j b] : Bt (i - j) (max a b + 1) := ⟨Nat.lt_of_le_of_lt (by omega) (two_pow_max ha.lt hb.lt)⟩
instance bt_neg {i : Int} {a : Nat} [ha : Bt i a] : Bt (-i) a := ⟨by rw [Int.natAbs_neg]; exact ha.lt⟩
instance bt_0 : Bt 0 1 := ⟨by decide⟩
instance bt_1 : Bt 1 1 := ⟨by decide⟩
instance (priority := low) bt_any {k : Int} : Bt k (k.natAbs.log2 + 1) := ⟨Nat.lt_log2_self⟩
instance bt_gcdL {i j : Int} {a b : Nat} [ha : Bt i a] [hb : Bt j b] : Bt (Int.gcd i j : Int) (max a b) := ⟨by
  have e : ∀ x y : Nat, Nat.gcd x y ≤ max x y := fun x y => by
    rcases Nat.eq_zero_or_pos x with h | h
    · subst h; simp
    · exact Nat.le_trans (Nat.gcd_le_left y h) (Nat.le_max_left _ _)
  rw [Int.natAbs_natCast]
  have h1 := Nat.pow_le_pow_right (show 0 < 2 by decide) (Nat.le_max_left a b)
  have h2 := Nat.pow_le_pow_right (show 0 < 2 by decide) (Nat.le_max_right a b)
  refine Nat.lt_of_le_of_lt (e i.natAbs j.natAbs) ?_
  have := ha.lt; have := hb.lt
  omega⟩
abbrev HW {α : Type} [DecidableEq α] [Datum α] (g : G) (w : W) (x : α) : Prop := DW g w (Datum.toD x)
theorem hw_int {g : G} {i : Int} : HW g (.int i) i := DW.int i
theorem hw_pair {α β : Type} [DecidableEq α] [Datum α] [DecidableEq β] [Datum β] {g : G} {a b : W} {x : α} {y : β} (h : HW g a x) (h' : HW g b y) : HW g (.tup [a, b]) (x, y) :=
  DW.tup rfl fun i w d e1 e2 => match i, e1, e2 with
    | 0, e1, e2 => by cases e1; cases e2; exact h
    | 1, e1, e2 => by cases e1; cases e2; exact h'
    | i + 2, e1, e2 => by simp at e1
theorem hw_get {α : Type} [DecidableEq α] [Datum α] {g : G} {ws : List W} {xs : List α} (n : ws.length = xs.length) (k : ∀ (i : Nat) (w : W) (x : α), ws[i]? = some w → xs[i]? = some x → HW g w x) :
    ws.length = (xs.map Datum.toD).length ∧ ∀ (i : Nat) (w : W) (d : PyData), ws[i]? = some w → (xs.map Datum.toD)[i]? = some d → DW g w d := by
  refine ⟨by simpa using n, fun i w d e1 e2 => ?_⟩
  rw [List.getElem?_map, Option.map_eq_some_iff] at e2
  obtain ⟨x, e2, rfl⟩ := e2
  exact k i w x e1 e2
theorem hw_lst {α : Type} [DecidableEq α] [Datum α] {g : G} {a : Addr} {ws : List W} {xs : List α} (h : g a = some (.lst ws)) (n : ws.length = xs.length) (k : ∀ (i : Nat) (w : W) (x : α), ws[i]? = some w → xs[i]? = some x → HW g w x) : HW g (.ref a) xs :=
  DW.lst h (hw_get n k).1 (hw_get n k).2
theorem hw_lstM {α : Type} [DecidableEq α] [Datum α] {g : G} {a : Addr} {f : α → W} {xs : List α} (h : g a = some (.lst (xs.map f))) (k : ∀ x ∈ xs, HW g (f x) x) : HW g (.ref a) xs :=
  hw_lst h (by simp) fun i w x e1 e2 => by
    rw [List.getElem?_map, e2] at e1
    cases e1
    exact k x (List.mem_of_getElem? e2)
theorem eqS_dw {neg : Bool} {x y : W} {g : G} {q : VK3} {d e : PyData} (h1 : DW g x d) (h2 : DW g y e) (p1 : d.plain = true) (p2 : e.plain = true) (hd : d.depth ≤ 64) (h : q (.bl (xor neg (PyData.eqv d e))) g) : eqS neg x y g q := by
  unfold eqS
  split
  · cases h1; cases h2; simpa [PyData.eqv, PySem.W.beq_decide] using h
  · cases h1; cases h2; simpa [PyData.eqv, PySem.W.beq_decide] using h
  · cases h1; cases h2; simpa [PyData.eqv, PySem.W.beq_decide] using h
  · exact ⟨d, e, h1, h2, p1, p2, hd, h⟩
theorem eqS_hw {α : Type} [DecidableEq α] [Datum α] {neg : Bool} {a b : W} {g : G} {q : VK3} {x y : α} (h1 : HW g a x) (h2 : HW g b y) (hd : Datum.depth α ≤ 64) (h : q (.bl (xor neg (decide (x = y)))) g) : eqS neg a b g q :=
  eqS_dw h1 h2 (Datum.plain x) (Datum.plain y) (Nat.le_trans (Datum.depth_le x) hd) (by rw [Datum.eqv]; exact h)
section
variable {tg : T3} {ok : G → Prop} {tb : TS3} {D : Ends3}
theorem for_ind (I : List W → Sx → G → Prop) (hend : ∀ s g, I [] s g → ok g ∧ D.nx s g)
    (hstep : ∀ x xs s g, I (x :: xs) s g → ∀ K : Sx → G → Prop, (∀ s' g', I xs s' g' → K s' g') → ok g ∧ asg tg x s g fun s2 => tb { nx := K, ct := K, bk := D.nx, rt := D.rt, ex := D.ex } s2 g) :
    ∀ xs s g, I xs s g → forI tg ok tb D xs s g
  | [], s, g, h => hend s g h
  | x :: xs, s, g, h => hstep x xs s g h _ fun s' g' h' => for_ind I hend hstep xs s' g' h'
theorem lc_ind {tt : Sx → G → (Bool → G → Prop) → Prop} {te : Sx → G → VK3 → Prop} {s : Sx} {q : VK3} (I : List W → List W → G → Prop) (hend : ∀ acc g, I [] acc g → ok g ∧ newL g acc q)
    (hstep : ∀ x xs acc g, I (x :: xs) acc g → ∀ K : List W → G → Prop, (∀ acc' g', I xs acc' g' → K acc' g') →
      ok g ∧ asg tg x s g fun s2 => tt s2 g fun b g3 => if b = true then te s2 g3 fun y g4 => acc.length < sizeLine ∧ K (acc ++ [y]) g4 else K acc g3) :
    ∀ xs acc g, I xs acc g → lcI tg ok tt te s q xs acc g
  | [], acc, g, h => hend acc g h
  | x :: xs, acc, g, h => by
    refine ⟨(hstep x xs acc g h (lcI tg ok tt te s q xs) fun a' g' h' => lc_ind I hend hstep xs a' g' h').1, ?_⟩
    exact (hstep x xs acc g h (lcI tg ok tt te s q xs) fun a' g' h' => lc_ind I hend hstep xs a' g' h').2
end
theorem lst_same {g : G} {p : Addr} {xs : List W} {k : List W → Prop} : lstAt (gup g p (.lst xs)) p k = k xs := lstAt_of gup_same
end L3
namespace L3
open PySem L2 PySem.W
section
variable {g : G} {q : VK3} {a b c d e : W} {r : List W}
theorem ixTn {xs : List W} {v : W} (k : Nat) (h : xs[k]? = some v) : ixS (.tup xs) (.int (k : Int)) g q = q v g := by simp only [ixS, atI_n, h, Option.some.injEq]; exact propext ⟨fun ⟨_, e, h⟩ => e ▸ h, fun h => ⟨_, rfl, h⟩⟩
theorem ixT0 : ixS (.tup (a :: r)) (.int 0) g q = q a g := ixTn 0 rfl
theorem ixT1 : ixS (.tup (a :: b :: r)) (.int 1) g q = q b g := ixTn 1 rfl
theorem ixT2 : ixS (.tup (a :: b :: c :: r)) (.int 2) g q = q c g := ixTn 2 rfl
theorem ixT3 : ixS (.tup (a :: b :: c :: d :: r)) (.int 3) g q = q d g := ixTn 3 rfl
theorem ixT4 : ixS (.tup (a :: b :: c :: d :: e :: r)) (.int 4) g q = q e g := ixTn 4 rfl
theorem ixL {p : Addr} {xs : List W} {i : Int} (h : g p = some (.lst xs)) : ixS (.ref p) (.int i) g q = ∃ v, atI xs i = some v ∧ q v g := by simp [ixS, h]
end
structure Low (a b t u : Int) : Prop where
  pos : 0 < u
  cop : Int.gcd t u = 1
  eq : t * b = a * u
  ht : t.natAbs ≤ a.natAbs
  hu : u.natAbs ≤ b.natAbs
end L3
namespace L3
theorem abs_ite {i : Int} : (if i < 0 then -i else i) = (i.natAbs : Int) := by split <;> omega
instance bt_absInst {i : Int} {a : Nat} [ha : Bt i a] : Bt (i.natAbs : Int) a := ⟨by have := ha.lt; omega⟩
instance bt_ediv {i j : Int} {a : Nat} [ha : Bt i a] : Bt (i / j) a := ⟨Nat.lt_of_le_of_lt (Int.natAbs_ediv_le_natAbs i j) ha.lt⟩
instance bt_fdiv {i j : Int} {a : Nat} [ha : Bt i a] : Bt (i.fdiv j) a := ⟨Nat.lt_of_le_of_lt (Int.natAbs_fdiv_le_natAbs i j) ha.lt⟩
end L3
namespace L3
open PySem L2
section
variable {neg : Bool} {g : G} {q : VK3}
theorem eqS_ii {i j : Int} : eqS neg (.int i) (.int j) g q = q (.bl (xor neg (decide (i = j)))) g := rfl
theorem eqS_ss {i j : Str} : eqS neg (.str i) (.str j) g q = q (.bl (xor neg (decide (i = j)))) g := rfl
theorem eqS_bb {i j : Bool} : eqS neg (.bl i) (.bl j) g q = q (.bl (xor neg (decide (i = j)))) g := rfl
end
end L3
namespace L3
open PySem L2
section
variable {v : Nat → W} {p : Addr} {c i : Nat} {row : List Bool} {x : XK3} {s : Sx} {o : Option W} {g : G} {q : VK3} {gl : Gs} {oo : List OC3}
theorem eIsx_0 : eIsx ⟨v, some (p, c, none), oo⟩ 0 row x (some (.exc p c none) :: s) g q = ∃ b, row[c]? = some b ∧ q (.bl b) g := by
  refine propext ⟨?_, ?_⟩
  · rintro ⟨a, c', d, b, e1, e2, e0, e3, h⟩
    cases e1
    exact ⟨b, e3, h⟩
  · rintro ⟨b, e, h⟩
    exact ⟨p, c, none, b, rfl, rfl, (fun _ h => nomatch h), e, h⟩
theorem eIsx_0x {dd : Addr} : eIsx ⟨v, some (p, c, some dd), oo⟩ 0 row x (some (.exc p c (some dd)) :: s) g q = ∃ fs, g dd = some (.xd fs) ∧ ∃ b, row[c]? = some b ∧ q (.bl b) g := by
  refine propext ⟨?_, ?_⟩
  · rintro ⟨a, c', d, b, e1, e2, e0, e3, h⟩
    cases e1
    obtain ⟨fs, hf⟩ := e0 _ rfl
    exact ⟨fs, hf, b, e3, h⟩
  · rintro ⟨fs, hf, b, e, h⟩
    exact ⟨p, c, some dd, b, rfl, rfl, (fun _ h => by cases h; exact ⟨fs, hf⟩), e, h⟩
theorem eXat_0 {dd : Addr} {f : Str} : eXat ⟨v, some (p, c, some dd), oo⟩ 0 f x (some (.exc p c (some dd)) :: s) g q = ∃ fs w, g dd = some (.xd fs) ∧ fs.lookup f = some w ∧ q w g := by
  refine propext ⟨?_, ?_⟩
  · rintro ⟨a, c', d, fs, w, e1, e2, e0, e3, h⟩
    cases e1
    exact ⟨fs, w, e0, e3, h⟩
  · rintro ⟨fs, w, e0, e3, h⟩
    exact ⟨p, c, dd, fs, w, rfl, rfl, e0, e3, h⟩
theorem eIsxs_0 {ys : List (Str × List Bool)} : eIsxs ⟨v, some (p, c, none), oo⟩ 0 ys x (some (.exc p c none) :: s) g q = ∃ b, anyR ys c = some b ∧ q (.bl b) g := by
  refine propext ⟨?_, ?_⟩
  · rintro ⟨a, c', d, b, e1, e2, e0, e3, h⟩
    cases e1
    exact ⟨b, e3, h⟩
  · rintro ⟨b, e, h⟩
    exact ⟨p, c, none, b, rfl, rfl, (fun _ h => nomatch h), e, h⟩
theorem eIsxs_0x {ys : List (Str × List Bool)} {dd : Addr} : eIsxs ⟨v, some (p, c, some dd), oo⟩ 0 ys x (some (.exc p c (some dd)) :: s) g q = ∃ fs, g dd = some (.xd fs) ∧ ∃ b, anyR ys c = some b ∧ q (.bl b) g := by
  refine propext ⟨?_, ?_⟩
  · rintro ⟨a, c', d, b, e1, e2, e0, e3, h⟩
    cases e1
    obtain ⟨fs, hf⟩ := e0 _ rfl
    exact ⟨fs, hf, b, e3, h⟩
  · rintro ⟨fs, hf, b, e, h⟩
    exact ⟨p, c, some dd, b, rfl, rfl, (fun _ h => by cases h; exact ⟨fs, hf⟩), e, h⟩
theorem eIsxs_s {ys : List (Str × List Bool)} : eIsxs gl (i + 1) ys x (o :: s) g q = eIsxs gl i ys x s g q := rfl
def DDh (g0 : G) (q : VK3) : Ends3 := { nx := fun _ g => rtS g0 q .non g, rt := rtS g0 q, bk := fun _ _ => False, ct := fun _ _ => False, ex := fun _ _ _ _ => False }
theorem anyR_nil {k : Nat} : anyR [] k = some false := rfl
theorem anyR_cons {k : Nat} {y : Str} {r : List Bool} {ys : List (Str × List Bool)} : anyR ((y, r) :: ys) k = match r[k]? with
    | none => none
    | some true => some true
    | some false => anyR ys k := rfl
theorem eXat_s {f : Str} : eXat gl (i + 1) f x (o :: s) g q = eXat gl i f x s g q := rfl
theorem suR_nil {k : Option Addr → G → Prop} : suR [] k g = k none g := rfl
theorem suR_cons {k : Option Addr → G → Prop} {f : Str} {w : W} {fs : List (Str × W)} : suR ((f, w) :: fs) k g = ∀ dd, (∀ o, g dd = some o → ∃ l, o = .xd l) → k (some dd) (gup g dd (.xd ((f, w) :: fs))) := rfl
theorem ex_su {d : Option Addr} {P : Addr → Nat → Option Addr → Prop} : (∃ a' c' d', some (p, c, d) = some (a', c', d') ∧ P a' c' d') = P p c d := by
  refine propext ⟨?_, fun h => ⟨p, c, d, rfl, h⟩⟩
  rintro ⟨a', c', d', e, h⟩
  cases e
  exact h
theorem eIsx_s : eIsx gl (i + 1) row x (o :: s) g q = eIsx gl i row x s g q := rfl
theorem ex_some {b : Bool} {P : Bool → Prop} : (∃ b', some b = some b' ∧ P b') = P b := by simp
end
end L3
namespace L3
open PySem L2
section
variable {a b c d e f h k : W} {g : G} {q : VK3} {p : Addr} {xs : List W} {i : Int}
theorem ln0 : (([] : List W).length ≤ sizeLine) = True := by simp
theorem ln1 : ([a].length ≤ sizeLine) = True := by simp [sizeLine]
theorem ln2 : ([a, b].length ≤ sizeLine) = True := by simp [sizeLine]
theorem ln3 : ([a, b, c].length ≤ sizeLine) = True := by simp [sizeLine]
theorem ln4 : ([a, b, c, d].length ≤ sizeLine) = True := by simp [sizeLine]
theorem ln5 : ([a, b, c, d, e].length ≤ sizeLine) = True := by simp [sizeLine]
theorem ln6 : ([a, b, c, d, e, f].length ≤ sizeLine) = True := by simp [sizeLine]
theorem ln7 : ([a, b, c, d, e, f, h].length ≤ sizeLine) = True := by simp [sizeLine]
theorem ln8 : ([a, b, c, d, e, f, h, k].length ≤ sizeLine) = True := by simp [sizeLine]
theorem ixG : ixS (.ref p) (.int i) (gup g p (.lst xs)) q = ∃ v, atI xs i = some v ∧ q v (gup g p (.lst xs)) := ixL gup_same
end
theorem mod_nat (c : Int) {m : Nat} (h : 0 < m) : ∃ k : Nat, k < m ∧ c.fmod (m : Int) = (k : Int) := by
  have hm : (0 : Int) < m := by omega
  refine ⟨(c % m).toNat, ?_, ?_⟩
  · have := Int.emod_lt_of_pos c hm; have := Int.emod_nonneg c (show (m : Int) ≠ 0 by omega); omega
  · rw [fmod_pos hm]; have := Int.emod_nonneg c (show (m : Int) ≠ 0 by omega); omega
end L3
namespace L3
open PySem L2
section
variable {g : G} {q : VK3}
theorem addS_ii {i j : Int} : addS (.int i) (.int j) g q = q (.int (i + j)) g := rfl
theorem addS_ss {a b : Str} : addS (.str a) (.str b) g q = (a.length + b.length ≤ sizeLine ∧ q (.str (a ++ b)) g) := rfl
theorem addS_tt {a b : List W} : addS (.tup a) (.tup b) g q = (a.length + b.length ≤ sizeLine ∧ q (.tup (a ++ b)) g) := rfl
theorem addS_rr {a b : Addr} : addS (.ref a) (.ref b) g q = lstAt g a fun xs => lstAt g b fun ys => xs.length + ys.length ≤ sizeLine ∧ newL g (xs ++ ys) q := rfl
end
end L3
namespace L3
open PySem L2
end L3
namespace L3
open PySem L2
section
variable {g : G} {r : List W → (G → Prop) → G → Prop} {a : Addr} {xs : List W}
theorem walkS_ref : walkS (.ref a) g r = lstAt g a fun xs => r xs (fun g' => g' a = some (.lst xs)) g := rfl
theorem walkS_tup : walkS (.tup xs) g r = r xs (fun _ => True) g := rfl
theorem walkS_scr : walkS (.scr xs) g r = r xs (fun _ => True) g := rfl
theorem walkL_ref : walkL (.ref a) g r = lstAt g a fun xs => r xs (fun g' => g' a = some (.lst xs)) g := rfl
theorem walkL_scr : walkL (.scr xs) g r = r xs (fun _ => True) g := rfl
end
end L3
namespace L3
open PySem L2
theorem isLst_of {g : G} {p : Addr} {xs : List W} (h : g p = some (.lst xs)) : isLst (.ref p) g := ⟨xs, h⟩
theorem small_line {n : Nat} (h : n ≤ 100000) : n < sizeLine := Nat.lt_of_le_of_lt h (by decide)
end L3
namespace L3
open PySem L2
end L3
namespace L3
open PySem L2
theorem lenL {g : G} {a : Addr} {xs : List W} {q : VK3} (h : g a = some (.lst xs)) : lenS [.ref a] g q = q (.int xs.length) g := by simp [lenS, h]
theorem lenS_str {g : G} {z : Str} {q : VK3} : lenS [.str z] g q = (z.length ≤ sizeLine ∧ q (.int z.length) g) := rfl
theorem lenS_tup {g : G} {z : List W} {q : VK3} : lenS [.tup z] g q = q (.int z.length) g := rfl
theorem lenS_scr {g : G} {z : List W} {q : VK3} : lenS [.scr z] g q = q (.int z.length) g := rfl
theorem lenG {g : G} {a : Addr} {xs : List W} {q : VK3} : lenS [.ref a] (gup g a (.lst xs)) q = q (.int xs.length) (gup g a (.lst xs)) := lenL gup_same
theorem rngW_drop (lo : Int) (n k : Nat) (h : k < n) : (rngW lo n).drop k = .int (lo + (k : Nat)) :: (rngW lo n).drop (k + 1) := by
  rw [List.drop_eq_getElem_cons (by simp [rngW]; exact h)]
  simp [rngW]
theorem for_rng {i n : Nat} {lo : Int} {ok : G → Prop} {tb : TS3} {D : Ends3} {s : Sx} {g : G} (I : Nat → Sx → G → Prop) (h0 : I 0 s g) (hend : ∀ s g, I n s g → ok g ∧ D.nx s g)
    (hstep : ∀ k s g, k < n → I k s g → ∀ K : Sx → G → Prop, (∀ s' g', I (k + 1) s' g' → K s' g') → ok g ∧ tb { nx := K, ct := K, bk := D.nx, rt := D.rt, ex := D.ex } (s.set i (some (.int (lo + (k : Nat))))) g) : forI (.name i) ok tb D (rngW lo n) s g := by
  refine for_ind (fun rest s g => ∃ k, k ≤ n ∧ rest = (rngW lo n).drop k ∧ I k s g) ?_ ?_ _ _ _ ⟨0, Nat.zero_le _, rfl, h0⟩
  · rintro s g ⟨k, hk, e, h⟩
    have : k = n := by
      rcases Nat.lt_or_ge k n with c | c
      · rw [rngW_drop _ _ _ c] at e; cases e
      · omega
    subst this
    exact hend s g h
  · rintro x xs s g ⟨k, hk, e, h⟩ K hK
    rcases Nat.lt_or_ge k n with c | c
    · rw [rngW_drop _ _ _ c] at e
      injection e with e1 e2
      subst e1
      exact hstep k s g c h K fun s' g' h' => hK s' g' ⟨k + 1, c, e2, h'⟩
    · rw [List.drop_eq_nil_of_le (by simp [rngW]; omega)] at e; cases e
theorem small_len {n : Nat} (h : n ≤ 100000) : small62 (n : Int) := by
  refine ⟨?_, ?_⟩
  · have : (-(2 ^ 62) : Int) = -4611686018427387904 := by decide
    omega
  · have : (2 ^ 62 : Int) = 4611686018427387904 := by decide
    omega
end L3
namespace L3
open PySem L2
theorem lc_pure {α : Type} {f : α → W} {c : α → Bool} {e : α → W} {i : Nat} {ok : G → Prop} {tt : Sx → G → (Bool → G → Prop) → Prop} {te : Sx → G → VK3 → Prop} {s : Sx} {q : VK3} {g : G} (hok : ok g) :
    ∀ (xs : List α) (acc : List W), (∀ x ∈ xs, ∀ k : Bool → G → Prop, k (c x) g → tt (s.set i (some (f x))) g k) → (∀ x ∈ xs, c x = true → ∀ k : VK3, k (e x) g → te (s.set i (some (f x))) g k) → xs.length + acc.length ≤ 100000 →
      newL g (acc ++ (xs.filter c).map e) q → lcI (.name i) ok tt te s q (xs.map f) acc g
  | [], acc, _, _, _, h => ⟨hok, by simpa using h⟩
  | x :: xs, acc, ht, he, hl, h => by
    refine ⟨hok, ?_⟩
    show tt (s.set i (some (f x))) g _
    refine ht x List.mem_cons_self _ ?_
    simp only [List.length_cons] at hl
    cases ec : c x with
    | true =>
      rw [if_pos rfl]
      refine he x List.mem_cons_self ec _ ⟨small_line (by omega), ?_⟩
      refine lc_pure hok xs _ (fun y hy => ht y (List.mem_cons_of_mem _ hy)) (fun y hy => he y (List.mem_cons_of_mem _ hy)) (by simp; omega) ?_
      rw [List.filter_cons_of_pos ec] at h
      simpa using h
    | false =>
      rw [if_neg (by decide)]
      refine lc_pure hok xs _ (fun y hy => ht y (List.mem_cons_of_mem _ hy)) (fun y hy => he y (List.mem_cons_of_mem _ hy)) (by omega) ?_
      rw [List.filter_cons_of_neg (by simp [ec])] at h
      exact h
theorem for_map {α : Type} {f : α → W} {tg : T3} {ok : G → Prop} {tb : TS3} {D : Ends3} (I : List α → List α → Sx → G → Prop) {xs : List α} {s : Sx} {g : G} (h0 : I [] xs s g) (hend : ∀ s g, I xs [] s g → ok g ∧ D.nx s g)
    (hstep : ∀ x pre post s g, xs = pre ++ x :: post → I pre (x :: post) s g → ∀ K : Sx → G → Prop, (∀ s' g', I (pre ++ [x]) post s' g' → K s' g') → ok g ∧ asg tg (f x) s g fun s2 => tb { nx := K, ct := K, bk := D.nx, rt := D.rt, ex := D.ex } s2 g) : forI tg ok tb D (xs.map f) s g := by
  refine for_ind (fun rest s g => ∃ pre post, xs = pre ++ post ∧ rest = post.map f ∧ I pre post s g) ?_ ?_ _ _ _ ⟨[], xs, rfl, rfl, h0⟩
  · rintro s g ⟨pre, post, e1, e2, h⟩
    have : post = [] := by simpa using e2.symm
    subst this
    rw [List.append_nil] at e1
    subst e1
    exact hend s g h
  · rintro y ys s g ⟨pre, post, e1, e2, h⟩ K hK
    cases post with
    | nil => simp at e2
    | cons x post =>
      simp only [List.map_cons] at e2
      injection e2 with a1 a2
      subst a1 a2
      exact hstep x pre post s g e1 h K fun s' g' h' => hK s' g' ⟨pre ++ [x], post, by rw [e1]; simp, rfl, h'⟩
def optW : Option Int → W
  | none => .non
  | some i => .int i
end L3
namespace L3
open PySem L2
theorem Ext.new {g : G} {p : Addr} {o : GO} (h : g p = none) : Ext g (gup g p o) := fun a u e => by
  have : a ≠ p := fun z => by subst z; rw [h] at e; cases e
  rw [gup_ne this]; exact e
theorem Ext.wr {g g1 : G} {p : Addr} {o : GO} (e : Ext g g1) (h : g p = none) : Ext g (gup g1 p o) := fun a u ea => by
  have : a ≠ p := fun z => by subst z; rw [h] at ea; cases ea
  rw [gup_ne this]; exact e a u ea
def maxO : List Int → Option Int
  | [] => none
  | x :: xs => some (xs.foldl max x)
theorem foldl_max_ge : ∀ (l : List Int) (x : Int), x ≤ l.foldl max x ∧ ∀ y ∈ l, y ≤ l.foldl max x
  | [], x => by simp
  | z :: l, x => by
    obtain ⟨h1, h2⟩ := foldl_max_ge l (max x z)
    simp only [List.foldl_cons]
    refine ⟨by omega, fun y hy => ?_⟩
    rcases List.mem_cons.mp hy with rfl | hy
    · omega
    · exact h2 y hy
theorem foldl_max_mem : ∀ (l : List Int) (x : Int), l.foldl max x = x ∨ l.foldl max x ∈ l
  | [], x => by simp
  | z :: l, x => by
    simp only [List.foldl_cons, List.mem_cons]
    rcases foldl_max_mem l (max x z) with h | h
    · rcases Int.le_total x z with c | c
      · right; left; rw [h]; omega
      · left; rw [h]; omega
    · exact .inr (.inr h)
theorem maxO_some {l : List Int} {m : Int} (h : maxO l = some m) : m ∈ l ∧ ∀ y ∈ l, y ≤ m := by
  cases l with
  | nil => simp [maxO] at h
  | cons x l =>
    simp only [maxO, Option.some.injEq] at h
    subst h
    have h1 := foldl_max_ge l x
    refine ⟨?_, fun y hy => ?_⟩
    · rcases foldl_max_mem l x with h | h
      · rw [h]; exact List.mem_cons_self
      · exact List.mem_cons_of_mem _ h
    · rcases List.mem_cons.mp hy with rfl | hy
      · exact h1.1
      · exact h1.2 y hy
abbrev Arc := Int × Int × Int
abbrev arcW (a : Arc) : W := .tup [.int a.1, .int a.2.1, .int a.2.2]
def pick (p q : Int) (a : Arc) : Bool := decide (a.1 = p) && decide (a.2.1 = q)
def lagO (A : List Arc) (p q : Int) : Option Int := maxO ((A.filter (pick p q)).map (·.2.2))
def links (C : List Int) : List (Int × Int) := C.zip C.tail
def tot (A : List Arc) : List (Int × Int) → Option Int
  | [] => some 0
  | l :: r => match lagO A l.1 l.2, tot A r with
    | some a, some b => some (a + b)
    | _, _ => none
def totO (A : List Arc) (C : List Int) : Option Int := tot A (links C)
theorem isS_non_opt {o : Option Int} {neg : Bool} {g : G} {q : VK3} : isS neg (optW o) .non g q = q (.bl (xor neg o.isNone)) g := by
  cases o <;> cases neg <;> rfl
end L3
namespace L3
open PySem L2
section
variable {neg : Bool} {g : G} {q : VK3} {i : Int} {z : Str} {b c : Bool} {xs : List W} {a : Addr} {k : Nat}
theorem isS_n : isS neg .non .non g q = q (.bl (!neg)) g := rfl
theorem isS_i : isS neg (.int i) .non g q = q (.bl neg) g := rfl
theorem isS_s : isS neg (.str z) .non g q = q (.bl neg) g := rfl
theorem isS_b : isS neg (.bl b) .non g q = q (.bl neg) g := rfl
theorem isS_t : isS neg (.tup xs) .non g q = q (.bl neg) g := rfl
theorem isS_c : isS neg (.scr xs) .non g q = q (.bl neg) g := rfl
theorem isS_r : isS neg (.ref a) .non g q = q (.bl neg) g := rfl
theorem isS_e {d : Option Addr} : isS neg (.exc a k d) .non g q = q (.bl neg) g := rfl
theorem isS_bb : isS neg (.bl b) (.bl c) g q = q (.bl (xor neg (decide (b = c)))) g := rfl
end
end L3
namespace L3
open PySem L2
theorem listS_scr {g : G} {xs : List W} {q : VK3} : listS [.scr xs] g q = newL g xs q := rfl
theorem listS_tup {g : G} {xs : List W} {q : VK3} : listS [.tup xs] g q = newL g xs q := rfl
theorem cutW_take {xs : List W} (k : Nat) : cutW xs none (some (k : Int)) = xs.take k := by
  rw [cutW, HT.sIx_none, HT.sIx_nat, List.drop_zero, Nat.sub_zero]
  rcases Nat.le_total k xs.length with h | h
  · rw [Nat.min_eq_left h]
  · rw [Nat.min_eq_right h, List.take_of_length_le (Nat.le_refl _), List.take_of_length_le h]
theorem cutW_drop {xs : List W} (k : Nat) : cutW xs (some (k : Int)) none = xs.drop k := by
  rw [cutW, HT.sIx_none, HT.sIx_nat]
  rcases Nat.le_total k xs.length with h | h
  · rw [Nat.min_eq_left h, List.take_of_length_le (by rw [List.length_drop]; omega)]
  · rw [Nat.min_eq_right h, Nat.sub_self, List.take_zero, List.drop_eq_nil_of_le h]
end L3
set_option maxRecDepth 100000
set_option maxHeartbeats 4000000
namespace L3
open PySem L2
theorem if_ff {α : Sort _} {a b : α} : (if (false : Bool) then a else b) = b := rfl
theorem if_tt {α : Sort _} {a b : α} : (if (true : Bool) then a else b) = a := rfl
section
variable {κ α : Type} [DecidableEq κ]
theorem dGet_nil {k : κ} : dGet ([] : List (κ × α)) k = none := rfl
theorem dGet_cons {p : κ × α} {l : List (κ × α)} {k : κ} : dGet (p :: l) k = if p.1 = k then some p.2 else dGet l k := by
  unfold dGet
  rw [List.find?_cons]
  by_cases h : p.1 = k
  · simp [h]
  · simp [h]
theorem dGet_app {l m : List (κ × α)} {k : κ} : dGet (l ++ m) k = (dGet l k).or (dGet m k) := by
  induction l with
  | nil => simp [dGet_nil]
  | cons p l ih =>
    rw [List.cons_append, dGet_cons, dGet_cons, ih]
    split <;> simp
theorem any_dGet {l : List (κ × α)} {k : κ} : (l.any fun p => decide (p.1 = k)) = (dGet l k).isSome := by
  induction l with
  | nil => rfl
  | cons p l ih =>
    rw [List.any_cons, dGet_cons, ih]
    by_cases h : p.1 = k <;> simp [h]
theorem dGet_map {l : List (κ × α)} {k k' : κ} {v : α} : dGet (l.map fun p => if p.1 = k then (p.1, v) else p) k' = if k' = k then (dGet l k).map (fun _ => v) else dGet l k' := by
  induction l with
  | nil => simp [dGet_nil]
  | cons p l ih =>
    rw [List.map_cons, dGet_cons, dGet_cons, dGet_cons, ih]
    by_cases h : p.1 = k
    · by_cases h2 : k' = k
      · simp [h, h2]
      · have : ¬ k = k' := fun z => h2 z.symm
        simp [h, h2, this]
    · by_cases h2 : k' = k
      · subst h2; simp [h]
      · simp [h, h2]
theorem dGet_put {l : List (κ × α)} {k k' : κ} {v : α} : dGet (dPut l k v) k' = if k' = k then some v else dGet l k' := by
  unfold dPut
  rw [any_dGet]
  split
  · rename_i h
    rw [dGet_map]
    split
    · obtain ⟨u, e⟩ := Option.isSome_iff_exists.mp h; rw [e]; rfl
    · rfl
  · rename_i h
    have h : dGet l k = none := by simpa using h
    rw [dGet_app, dGet_cons, dGet_nil]
    by_cases h2 : k' = k
    · subst h2; simp [h]
    · have : ¬ k = k' := fun z => h2 z.symm
      simp [h2, this]
theorem dPut_len {l : List (κ × α)} {k : κ} {v : α} : (dPut l k v).length ≤ l.length + 1 := by
  unfold dPut; split <;> simp
theorem dPut_keys {l : List (κ × α)} {k : κ} {v : α} : (dPut l k v).map (·.1) = if (dGet l k).isSome then l.map (·.1) else l.map (·.1) ++ [k] := by
  unfold dPut
  rw [any_dGet]
  split
  · rw [List.map_map]
    congr 1
    funext p
    show (if p.1 = k then (p.1, v) else p).1 = p.1
    split <;> rfl
  · simp
theorem dGet_mem {l : List (κ × α)} {k : κ} {v : α} (h : dGet l k = some v) : (k, v) ∈ l := by
  induction l with
  | nil => cases h
  | cons p l ih =>
    rw [dGet_cons] at h
    split at h
    · rename_i e; cases h; subst e; exact List.mem_cons_self
    · exact List.mem_cons_of_mem _ (ih h)
theorem mem_dGet {l : List (κ × α)} {p : κ × α} (h : p ∈ l) : ∃ v, dGet l p.1 = some v := by
  induction l with
  | nil => cases h
  | cons q l ih =>
    rw [dGet_cons]
    split
    · exact ⟨_, rfl⟩
    · rename_i ne
      rcases List.mem_cons.mp h with rfl | h
      · exact absurd rfl ne
      · exact ih h
end
abbrev key2 (p q : Int) : List Key := [.inl p, .inl q]
section
variable {g : G} {a : Addr} {lk neg : Bool} {kvs : List (List Key × W)} {p r : Int} {q : VK3}
theorem put_lst {xs : List W} {i : Int} {v : W} {k : G → Prop} (h : g a = some (.lst xs)) : putS (.ref a) (.int i) v g k = ∃ j, ixN xs.length i = some j ∧ k (gup g a (.lst (xs.set j v))) := by simp [putS, h]
theorem keys_dic {kvs : List (Key × W)} {r : List W → (G → Prop) → G → Prop} (h : g a = some (.dic lk kvs)) : keysS (.ref a) g r = r (kvs.map fun p => kW p.1) (fun g' => g' a = some (.dic true kvs)) (gup g a (.dic true kvs)) := by simp [keysS, h]
theorem unl_dic {kvs : List (Key × W)} (h : g a = some (.dic true kvs)) : unl g a = gup g a (.dic false kvs) := by simp [unl, h]
end
theorem ixN_n {n k : Nat} (h : k < n) : ixN n (k : Int) = some k := by unfold ixN; rw [if_pos (Int.natCast_nonneg k), if_pos (by omega)]; simp
theorem gup_comm {g : G} {a b : Addr} {u v : GO} (h : a ≠ b) : gup (gup g a u) b v = gup (gup g b v) a u := by
  funext c; unfold gup
  by_cases h1 : c = b
  · subst h1; simp [Ne.symm h]
  · simp [h1]
theorem gup_gup {g : G} {a : Addr} {u v : GO} : gup (gup g a u) a v = gup g a v := by
  funext c; unfold gup; split <;> simp_all
theorem pick_iff {p r : Int} {e : Arc} : pick p r e = true ↔ e.1 = p ∧ e.2.1 = r := by simp [pick]
theorem lagO_mem {A : List Arc} {p r m : Int} (h : lagO A p r = some m) : (p, r, m) ∈ A := by
  obtain ⟨e, he, rfl⟩ := List.mem_map.mp (maxO_some h).1
  obtain ⟨h1, h2⟩ := List.mem_filter.mp he
  obtain ⟨rfl, rfl⟩ := pick_iff.mp h2
  exact h1
theorem totO_cc {A : List Arc} {a b : Int} {r : List Int} : totO A (a :: b :: r) = match lagO A a b, totO A (b :: r) with | some x, some y => some (x + y) | _, _ => none := rfl
theorem totO_one {A : List Arc} {a : Int} : totO A [a] = some 0 := rfl
theorem totO_cons_iff {A : List Arc} {a b : Int} {r : List Int} {t : Int} : totO A (a :: b :: r) = some t ↔ ∃ x y, lagO A a b = some x ∧ totO A (b :: r) = some y ∧ t = x + y := by
  rw [totO_cc]
  cases lagO A a b <;> cases totO A (b :: r) <;> simp [eq_comm]
theorem totO_app {A : List Arc} {v : Int} {w : List Int} : ∀ {u : List Int} {t : Int}, totO A (u ++ v :: w) = some t ↔ ∃ x y, totO A (u ++ [v]) = some x ∧ totO A (v :: w) = some y ∧ t = x + y
  | [], t => by simp [totO_one, eq_comm]
  | [a], t => by
    simp only [List.cons_append, List.nil_append, totO_cons_iff, totO_one]
    constructor
    · rintro ⟨x, y, h1, h2, rfl⟩; exact ⟨x, y, ⟨x, 0, h1, rfl, by omega⟩, h2, rfl⟩
    · rintro ⟨_, y, ⟨x, z, h1, h3, rfl⟩, h2, rfl⟩; cases h3; exact ⟨x, y, h1, h2, by omega⟩
  | a :: b :: u, t => by
    have ih := fun t => totO_app (A := A) (v := v) (w := w) (u := b :: u) (t := t)
    simp only [List.cons_append, totO_cons_iff] at ih ⊢
    constructor
    · rintro ⟨x, y, h1, h2, rfl⟩
      obtain ⟨x', y', k1, k2, rfl⟩ := (ih y).mp h2
      exact ⟨x + x', y', ⟨x, x', h1, k1, rfl⟩, k2, by omega⟩
    · rintro ⟨_, y, ⟨x, z, h1, h3, rfl⟩, h2, rfl⟩
      exact ⟨x, z + y, h1, (ih _).mpr ⟨z, y, h3, h2, rfl⟩, by omega⟩
theorem totO_snoc {A : List Arc} {u : List Int} {p q x l : Int} (h : totO A (u ++ [p]) = some x) (hl : lagO A p q = some l) : totO A (u ++ [p] ++ [q]) = some (x + l) := by
  rw [List.append_assoc]
  exact totO_app.mpr ⟨x, l, h, totO_cons_iff.mpr ⟨l, 0, hl, rfl, by omega⟩, rfl⟩
theorem totO_le {A : List Arc} {M : Int} (h0 : 0 ≤ M) (hM : ∀ e ∈ A, e.2.2 ≤ M) : ∀ {c : List Int} {t : Int}, totO A c = some t → t ≤ c.length * M
  | [], t, h => by cases h; simp
  | [a], t, h => by cases h; simpa using h0
  | a :: b :: r, t, h => by
    obtain ⟨x, y, h1, h2, rfl⟩ := totO_cons_iff.mp h
    have i := totO_le h0 hM h2
    have j := hM _ (lagO_mem h1)
    simp only [List.length_cons] at i ⊢
    have e : (((r.length + 1 + 1 : Nat) : Int)) * M = ((r.length + 1 : Nat) : Int) * M + M := by push_cast; rw [Int.add_mul _ 1]; omega
    rw [e]
    have j' : x ≤ M := j
    omega
theorem nd_len : ∀ (N : Nat) (l : List Int), l.Nodup → (∀ v ∈ l, 0 ≤ v ∧ v < N) → l.length ≤ N
  | 0, [], _, _ => Nat.le_refl _
  | 0, v :: l, _, h => by have := h v List.mem_cons_self; omega
  | N + 1, l, nd, h => by
    have ih := nd_len N (l.erase (N : Int)) (nd.erase _) fun v hv => by
      rw [nd.mem_erase_iff] at hv
      have := h v hv.2
      omega
    have : l.length ≤ (l.erase (N : Int)).length + 1 := by
      rw [List.length_erase]; split <;> omega
    omega
structure BF (A : List Arc) (N : Nat) (T : Int → Int) (C : Int → List Int) : Prop where
  last : ∀ i : Int, 0 ≤ i → i < N → (C i).getLast? = some i
  nd : ∀ i : Int, 0 ≤ i → i < N → (C i).Nodup
  mem : ∀ i : Int, 0 ≤ i → i < N → ∀ v ∈ C i, 0 ≤ v ∧ v < N
  tot : ∀ i : Int, 0 ≤ i → i < N → totO A (C i) = some (T i)
  pre : ∀ i : Int, 0 ≤ i → i < N → ∀ u v w, C i = u ++ v :: w → ∃ t, totO A (u ++ [v]) = some t ∧ t ≤ T v
  nn : ∀ i : Int, 0 ≤ i → i < N → 0 ≤ T i
def setI {α : Type} (f : Int → α) (q : Int) (v : α) : Int → α := fun i => if i = q then v else f i
theorem setI_same {α : Type} {f : Int → α} {q : Int} {v : α} : setI f q v q = v := by simp [setI]
theorem setI_ne {α : Type} {f : Int → α} {q i : Int} {v : α} (h : i ≠ q) : setI f q v i = f i := by simp [setI, h]
section
variable {A : List Arc} {N : Nat} {T : Int → Int} {C : Int → List Int}
theorem BF.start : BF A N (fun _ => 0) (fun i => [i]) where
  last := fun i _ _ => rfl
  nd := fun i _ _ => by simp
  mem := fun i h1 h2 v hv => by simp at hv; subst hv; exact ⟨h1, h2⟩
  tot := fun i _ _ => rfl
  pre := fun i _ _ u v w e => by
    cases u with
    | nil => exact ⟨0, rfl, Int.le_refl _⟩
    | cons a u => have := congrArg List.length e; simp at this <;> omega
  nn := fun _ _ _ => Int.le_refl _
theorem last_app {c : List Int} {p : Int} (h : c.getLast? = some p) : ∃ u, c = u ++ [p] := List.getLast?_eq_some_iff.mp h
theorem BF.step (b : BF A N T C) {p q l : Int} (hp : 0 ≤ p) (hp' : p < N) (hq : 0 ≤ q) (hq' : q < N) (hl : lagO A p q = some l) (hn : q ∉ C p) (hT : T q < T p + l) : BF A N (setI T q (T p + l)) (setI C q (C p ++ [q])) := by
  obtain ⟨u0, e0⟩ := last_app (b.last p hp hp')
  have tl : totO A (C p ++ [q]) = some (T p + l) := by
    have := b.tot p hp hp'
    rw [e0] at this ⊢
    exact totO_snoc this hl
  have up : ∀ v t, t ≤ T v → t ≤ setI T q (T p + l) v := fun v t h => by
    by_cases z : v = q
    · subst z; rw [setI_same]; omega
    · rw [setI_ne z]; exact h
  refine ⟨fun i h1 h2 => ?_, fun i h1 h2 => ?_, fun i h1 h2 => ?_, fun i h1 h2 => ?_, fun i h1 h2 u v w e => ?_, fun i h1 h2 => ?_⟩
  · by_cases z : i = q
    · subst z; rw [setI_same]; simp
    · rw [setI_ne z]; exact b.last i h1 h2
  · by_cases z : i = q
    · subst z; rw [setI_same]
      rw [List.nodup_append]
      refine ⟨b.nd p hp hp', by simp, fun a ha c hc => ?_⟩
      rw [List.mem_singleton.mp hc]
      exact fun z => hn (z ▸ ha)
    · rw [setI_ne z]; exact b.nd i h1 h2
  · by_cases z : i = q
    · subst z; rw [setI_same]
      intro v hv
      rcases List.mem_append.mp hv with hv | hv
      · exact b.mem p hp hp' v hv
      · rw [List.mem_singleton.mp hv]; exact ⟨hq, hq'⟩
    · rw [setI_ne z]; exact b.mem i h1 h2
  · by_cases z : i = q
    · subst z; rw [setI_same, setI_same]; exact tl
    · rw [setI_ne z, setI_ne z]; exact b.tot i h1 h2
  · by_cases z : i = q
    · subst z
      rw [setI_same] at e
      rcases List.eq_nil_or_concat w with hw | ⟨w', y, hw⟩
      · subst hw
        have e2 : C p ++ [i] = u ++ [v] := e
        obtain ⟨e3, e4⟩ := List.append_inj' e2 rfl
        cases e4
        rw [← e2]
        exact ⟨_, tl, by rw [setI_same]; omega⟩
      · subst hw
        rw [List.concat_eq_append] at e
        have e2 : C p ++ [i] = (u ++ v :: w') ++ [y] := by rw [e]; simp
        obtain ⟨e3, e4⟩ := List.append_inj' e2 rfl
        obtain ⟨t, k1, k2⟩ := b.pre p hp hp' u v w' e3
        exact ⟨t, k1, up _ _ k2⟩
    · rw [setI_ne z] at e
      obtain ⟨t, k1, k2⟩ := b.pre i h1 h2 u v w e
      exact ⟨t, k1, up _ _ k2⟩
  · exact up _ _ (b.nn i h1 h2)
theorem BF.le (b : BF A N T C) {M : Int} (h0 : 0 ≤ M) (hM : ∀ e ∈ A, e.2.2 ≤ M) {i : Int} (h1 : 0 ≤ i) (h2 : i < N) : T i ≤ N * M := by
  have h := totO_le h0 hM (b.tot i h1 h2)
  have hl : (C i).length ≤ N := by
    exact nd_len N (C i) (b.nd i h1 h2) (b.mem i h1 h2)
  have : ((C i).length : Int) * M ≤ N * M := Int.mul_le_mul_of_nonneg_right (by omega) h0
  omega
end
def room3 (B : Int) (T : Int → Int) : Nat → Nat
  | 0 => 0
  | n + 1 => room3 B T n + (B - T n).toNat
def rngM (N : Nat) (f : Int → W) : List W := (List.range N).map fun i : Nat => f i
theorem rngM_congr {N : Nat} {f f' : Int → W} (h : ∀ i : Int, 0 ≤ i → i < N → f i = f' i) : rngM N f = rngM N f' := by
  unfold rngM
  exact List.map_congr_left fun i hi => h i (by omega) (by have := List.mem_range.mp hi; omega)
structure ES (g g' : G) (N : Nat) (td cd rd : Addr) (R : List Arc) (T : Int → Int) (C : Int → List Int) (cs : Int → Addr) : Prop where
  ext : Ext g g'
  t : g' td = some (.lst (rngM N fun i => .int (T i)))
  c : g' cd = some (.lst (rngM N fun i => .ref (cs i)))
  r : g' rd = some (.lst (R.map arcW))
  ch : ∀ i : Int, 0 ≤ i → i < N → g' (cs i) = some (.lst ((C i).map W.int)) ∧ cs i ≠ td ∧ cs i ≠ cd
  tc : td ≠ cd
  tr : td ≠ rd
  cr : cd ≠ rd
  gt : g td = none
  gc : g cd = none
theorem ES.upd {g g' : G} {N : Nat} {td cd rd : Addr} {R : List Arc} {T : Int → Int} {C : Int → List Int} {cs : Int → Addr} (e : ES g g' N td cd rd R T C cs) {q v : Int} {X : List Int} {b1 b2 : Addr} {o : GO} (h1 : gup g' td (.lst (rngM N (setI (fun i => .int (T i)) q (.int v)))) b1 = none)
    (h2 : gup (gup g' td (.lst (rngM N (setI (fun i => .int (T i)) q (.int v))))) b1 o b2 = none) :
    ES g (gup (gup (gup (gup g' td (.lst (rngM N (setI (fun i => .int (T i)) q (.int v))))) b1 o) b2 (.lst (X.map W.int))) cd (.lst (rngM N (setI (fun i => .ref (cs i)) q (.ref b2))))) N td cd rd R (setI T q v) (setI C q X) (setI cs q b2) := by
  have n1 : b1 ≠ td := fun z => by subst z; rw [gup_same] at h1; cases h1
  rw [gup_ne n1] at h1
  have n2 : b2 ≠ b1 := fun z => by subst z; rw [gup_same] at h2; cases h2
  rw [gup_ne n2] at h2
  have n3 : b2 ≠ td := fun z => by subst z; rw [gup_same] at h2; cases h2
  rw [gup_ne n3] at h2
  have of1 : ∀ {a : Addr} {u : GO}, g' a = some u → a ≠ b1 ∧ a ≠ b2 := fun h => ⟨(fun z => by subst z; rw [h1] at h; cases h), (fun z => by subst z; rw [h2] at h; cases h)⟩
  obtain ⟨tb1, tb2⟩ := of1 e.t
  obtain ⟨cb1, cb2⟩ := of1 e.c
  obtain ⟨rb1, rb2⟩ := of1 e.r
  have eT : rngM N (setI (fun i => W.int (T i)) q (.int v)) = rngM N fun i => .int (setI T q v i) := rngM_congr fun i _ _ => by unfold setI; split <;> rfl
  have eC : rngM N (setI (fun i => W.ref (cs i)) q (.ref b2)) = rngM N fun i => .ref (setI cs q b2 i) := rngM_congr fun i _ _ => by unfold setI; split <;> rfl
  refine ⟨fun a u ha => ?_, ?_, ?_, ?_, fun i h0 hi => ?_, e.tc, e.tr, e.cr, e.gt, e.gc⟩
  · have k := e.ext a u ha
    obtain ⟨k1, k2⟩ := of1 k
    rw [gup_ne (fun z => by subst z; rw [e.gc] at ha; cases ha), gup_ne k2, gup_ne k1, gup_ne (fun z => by subst z; rw [e.gt] at ha; cases ha)]
    exact k
  · rw [gup_ne e.tc, gup_ne tb2, gup_ne tb1, gup_same, eT]
  · rw [gup_same, eC]
  · rw [gup_ne (Ne.symm e.cr), gup_ne rb2, gup_ne rb1, gup_ne (Ne.symm e.tr)]; exact e.r
  · by_cases z : i = q
    · subst z
      rw [setI_same, setI_same]
      exact ⟨by rw [gup_ne (Ne.symm cb2), gup_same], n3, Ne.symm cb2⟩
    · rw [setI_ne z, setI_ne z]
      obtain ⟨k, k1, k2⟩ := e.ch i h0 hi
      obtain ⟨k3, k4⟩ := of1 k
      exact ⟨by rw [gup_ne k2, gup_ne k4, gup_ne k3, gup_ne k1]; exact k, k1, k2⟩
end L3
namespace L3
open PySem L2 PySem.W
def encS : W → PyData
  | .str x => .str x
  | _ => .none
def leStr (a b : Str) : Bool := decide (a.cps.toList ≤ b.cps.toList)
def srt (l : List Str) : List Str := l.mergeSort leStr
theorem srt_map (l : List Str) : (l.map W.str).mergeSort (dataLe false encS) = (srt l).map W.str := by
  unfold srt
  rw [List.map_mergeSort]
  intro a _ b _
  have := congrFun (congrFun (dataLe_str (fun s : Str => s)) a) b
  exact this.symm
theorem sort_strs {l : List Str} {g : G} {q : VK3} (h : newL g ((srt l).map W.str) q) : sortL (l.map W.str) g q := by
  refine ⟨encS, fun x hx => ?_, ?_, ?_, fun x hx => ?_, by rw [srt_map]; exact h⟩
  · obtain ⟨y, _, rfl⟩ := List.mem_map.mp hx; exact DW.str y
  · intro d hd d' hd'
    obtain ⟨x, hx, rfl⟩ := List.mem_map.mp hd
    obtain ⟨x', hx', rfl⟩ := List.mem_map.mp hd'
    obtain ⟨y, _, rfl⟩ := List.mem_map.mp hx
    obtain ⟨y', _, rfl⟩ := List.mem_map.mp hx'
    rfl
  · refine .inr fun d hd => ?_
    obtain ⟨x, hx, rfl⟩ := List.mem_map.mp hd
    obtain ⟨y, _, rfl⟩ := List.mem_map.mp hx
    exact ⟨(fun z => nomatch z), fun xs z => nomatch z⟩
  · obtain ⟨y, _, rfl⟩ := List.mem_map.mp hx
    exact Nat.le_of_ble_eq_true rfl
inductive Reach (Ps : List (Str × Str)) (good : Str) : Str → Prop
  | base : Reach Ps good good
  | step {u v : Str} : Reach Ps good u → (u, v) ∈ Ps → Reach Ps good v
end L3
namespace L3
open PySem L2 PySem.W
section
variable {g : G} {q : VK3} {xs ys : List W} {a p : Addr} {f m : Str} {c : Nat} {fs : List (Str × W)} {neg : Bool} {v : W}
theorem addS_lr : addS (.lv xs) (.ref a) g q = lstAt g a fun ys => xs.length + ys.length ≤ sizeLine ∧ newL g (xs ++ ys) q := rfl
theorem addS_rl : addS (.ref a) (.lv ys) g q = lstAt g a fun xs => xs.length + ys.length ≤ sizeLine ∧ newL g (xs ++ ys) q := rfl
theorem addS_ll : addS (.lv xs) (.lv ys) g q = (xs.length + ys.length ≤ sizeLine ∧ newL g (xs ++ ys) q) := rfl
theorem isS_l : isS neg (.lv xs) .non g q = q (.bl neg) g := rfl
theorem lenS_lv : lenS [.lv xs] g q = q (.int xs.length) g := rfl
theorem listS_lv : listS [.lv xs] g q = newL g xs q := rfl
theorem walkS_lv {r : List W → (G → Prop) → G → Prop} : walkS (.lv xs) g r = r xs (fun _ => True) g := rfl
theorem walkL_lv {r : List W → (G → Prop) → G → Prop} : walkL (.lv xs) g r = r xs (fun _ => True) g := rfl
def attrM (f : Str) (o : Option GO) (g : G) (q : VK3) : Prop := match o with
  | some (.ins _ fs) => match fs.lookup f with
    | some v => q v g
    | none => False
  | _ => False
theorem attrS_r : attrS f (.ref p) g q = attrM f (g p) g q := rfl
theorem attr_of (h : g p = some (.ins c fs)) (e : fs.lookup f = some v) (hq : q v g) : attrS f (.ref p) g q := by
  rw [attrS_r, h]; simp only [attrM, e]; exact hq
theorem seta_of {k : G → Prop} (h : g p = some (.ins c fs)) (hl : fs.length < 1000) (hk : k (gup g p (.ins c (putG f v fs)))) : setaS f (.ref p) v g k := by
  simp only [setaS, h]; exact ⟨hl, hk⟩
theorem ne_free {o : GO} (h : g a = some o) (n : g p = none) : a ≠ p := fun z => by subst z; rw [h] at n; cases n
end
theorem gup_eta {g : G} {p : Addr} {o : GO} (h : g p = some o) : gup g p o = g := gup_self h
class WD (α : Type) [DecidableEq α] [Datum α] where
  w : α → W
  hw : ∀ (g : G) (x : α), DW g (w x) (Datum.toD x)
instance : WD Int := ⟨W.int, fun _ x => DW.int x⟩
instance : WD Bool := ⟨W.bl, fun _ x => DW.bl x⟩
instance : WD Str := ⟨W.str, fun _ x => DW.str x⟩
instance {α β : Type} [DecidableEq α] [Datum α] [WD α] [DecidableEq β] [Datum β] [WD β] : WD (α × β) := ⟨fun p => .tup [WD.w p.1, WD.w p.2], fun g p => hw_pair (WD.hw g p.1) (WD.hw g p.2)⟩
instance {α : Type} [DecidableEq α] [Datum α] [WD α] : WD (List α) := ⟨fun xs => .lv (xs.map WD.w), fun g xs => by
  have h := hw_get (g := g) (ws := xs.map WD.w) (xs := xs) (by simp) fun i w x e1 e2 => by
    rw [List.getElem?_map, e2] at e1; cases e1; exact WD.hw g x
  exact DW.lv h.1 h.2⟩
instance {α : Type} [DecidableEq α] [Datum α] [WD α] : WD (Tup α) := ⟨fun t => .tup (t.items.map WD.w), fun g t => by
  have h := hw_get (g := g) (ws := t.items.map WD.w) (xs := t.items) (by simp) fun i w x e1 e2 => by
    rw [List.getElem?_map, e2] at e1; cases e1; exact WD.hw g x
  exact DW.tup h.1 h.2⟩
theorem dw_tup3 {g : G} {a b c : W} {d e f : PyData} (h1 : DW g a d) (h2 : DW g b e) (h3 : DW g c f) : DW g (.tup [a, b, c]) (.tuple [d, e, f]) :=
  DW.tup rfl fun i w u e1 e2 => match i, e1, e2 with
    | 0, e1, e2 => by cases e1; cases e2; exact h1
    | 1, e1, e2 => by cases e1; cases e2; exact h2
    | 2, e1, e2 => by cases e1; cases e2; exact h3
    | i + 3, e1, e2 => by simp at e1
theorem dw_tup4 {g : G} {a b c d' : W} {d e f h : PyData} (h1 : DW g a d) (h2 : DW g b e) (h3 : DW g c f) (h4 : DW g d' h) : DW g (.tup [a, b, c, d']) (.tuple [d, e, f, h]) :=
  DW.tup rfl fun i w u e1 e2 => match i, e1, e2 with
    | 0, e1, e2 => by cases e1; cases e2; exact h1
    | 1, e1, e2 => by cases e1; cases e2; exact h2
    | 2, e1, e2 => by cases e1; cases e2; exact h3
    | 3, e1, e2 => by cases e1; cases e2; exact h4
    | i + 4, e1, e2 => by simp at e1
section
variable {α : Type} [DecidableEq α] [Datum α] [WD α] {g : G} {q : VK3} {neg : Bool} {x y : α} {xs : List α}
theorem eqS_w (hd : Datum.depth α ≤ 64 := by decide) (h : q (.bl (xor neg (decide (x = y)))) g) : eqS neg (WD.w x) (WD.w y) g q := eqS_hw (WD.hw g x) (WD.hw g y) hd h
theorem inS_w (hd : Datum.depth α ≤ 64 := by decide) (h : q (.bl (xor neg (decide (x ∈ xs)))) g) : inS neg (WD.w x) (.lv (xs.map WD.w)) g q := by
  have key : ∀ u : W, DW g u (Datum.toD x) → inS neg u (.lv (xs.map WD.w)) g q := fun u hu => by
    have e : inS neg u (.lv (xs.map WD.w)) g q = ((flatW u = true ∧ (xs.map WD.w).all flatW = true ∧ q (.bl (xor neg ((xs.map WD.w).any fun z => eqW z u))) g) ∨
      ∃ d ds, DW g u d ∧ DW g (.lv (xs.map WD.w)) (.list ds) ∧ d.plain = true ∧ PyData.plainAll ds = true ∧ d.depth ≤ 64 ∧ q (.bl (xor neg (ds.any fun z => PyData.eqv z d))) g) := by cases u <;> rfl
    rw [e]
    exact .inr ⟨Datum.toD x, xs.map Datum.toD, hu, WD.hw g xs, Datum.plain x, plainAll_map xs, Nat.le_trans (Datum.depth_le x) hd, by rw [any_datum]; exact h⟩
  exact key _ (WD.hw g x)
end
section
variable {α : Type} [DecidableEq α] [DatumOrd α] [WD α] {g : G} {q : VK3} {x y : α} {xs : List α}
end
end L3
set_option maxRecDepth 100000
set_option maxHeartbeats 4000000
namespace L3
open PySem L2 PySem.W
class OrdL (α : Type) [DecidableEq α] [DatumOrd α] : Prop where
  irr : ∀ a : α, DatumOrd.lt a a = false
  tr : ∀ a b c : α, DatumOrd.lt a b = true → DatumOrd.lt b c = true → DatumOrd.lt a c = true
  tri : ∀ a b : α, a ≠ b → DatumOrd.lt a b = true ∨ DatumOrd.lt b a = true
instance : OrdL Int where
  irr a := by show decide (a < a) = false; simp
  tr a b c := by show decide (a < b) = true → decide (b < c) = true → decide (a < c) = true; simp only [decide_eq_true_eq]; omega
  tri a b := by show a ≠ b → decide (a < b) = true ∨ decide (b < a) = true; simp only [decide_eq_true_eq]; omega
instance : OrdL Str where
  irr a := by show decide (a.cps.toList < a.cps.toList) = false; simp [List.lt_irrefl]
  tr a b c := by show decide (a.cps.toList < b.cps.toList) = true → decide (b.cps.toList < c.cps.toList) = true → decide (a.cps.toList < c.cps.toList) = true; simp only [decide_eq_true_eq]; exact fun h1 h2 => List.lt_trans h1 h2
  tri a b := by
    show a ≠ b → decide (a.cps.toList < b.cps.toList) = true ∨ decide (b.cps.toList < a.cps.toList) = true
    intro h
    simp only [decide_eq_true_eq]
    by_cases h1 : a.cps.toList < b.cps.toList
    · exact .inl h1
    · by_cases h2 : b.cps.toList < a.cps.toList
      · exact .inr h2
      · exfalso
        have e := List.le_antisymm (List.not_lt.mp h2) (List.not_lt.mp h1)
        apply h
        cases a; cases b
        simp only [Str.mk.injEq]
        exact Array.toList_inj.mp e
section
variable {α β γ δ : Type} [DecidableEq α] [DatumOrd α] [DecidableEq β] [DatumOrd β] [DecidableEq γ] [DatumOrd γ] [DecidableEq δ] [DatumOrd δ]
instance [OrdL α] [OrdL β] : OrdL (α × β) where
  irr a := by show (if a.1 = a.1 then DatumOrd.lt a.2 a.2 else DatumOrd.lt a.1 a.1) = false; rw [if_pos rfl]; exact OrdL.irr _
  tr a b c := by
    show (if a.1 = b.1 then DatumOrd.lt a.2 b.2 else DatumOrd.lt a.1 b.1) = true → (if b.1 = c.1 then DatumOrd.lt b.2 c.2 else DatumOrd.lt b.1 c.1) = true → (if a.1 = c.1 then DatumOrd.lt a.2 c.2 else DatumOrd.lt a.1 c.1) = true
    intro h1 h2
    by_cases e1 : a.1 = b.1
    · rw [if_pos e1] at h1
      by_cases e2 : b.1 = c.1
      · rw [if_pos e2] at h2; rw [if_pos (e1.trans e2)]; exact OrdL.tr _ _ _ h1 h2
      · rw [if_neg e2] at h2; rw [e1, if_neg e2]; exact h2
    · rw [if_neg e1] at h1
      by_cases e2 : b.1 = c.1
      · rw [if_pos e2] at h2; rw [← e2, if_neg e1]; exact h1
      · rw [if_neg e2] at h2
        have h3 := OrdL.tr _ _ _ h1 h2
        rw [if_neg (fun z => by rw [z, OrdL.irr] at h3; cases h3)]; exact h3
  tri a b := by
    show a ≠ b → (if a.1 = b.1 then DatumOrd.lt a.2 b.2 else DatumOrd.lt a.1 b.1) = true ∨ (if b.1 = a.1 then DatumOrd.lt b.2 a.2 else DatumOrd.lt b.1 a.1) = true
    intro h
    by_cases e : a.1 = b.1
    · rw [if_pos e, if_pos e.symm]; exact OrdL.tri _ _ fun z => h (Prod.ext e z)
    · rw [if_neg e, if_neg (Ne.symm e)]; exact OrdL.tri _ _ e
theorem listLt_irr [OrdL α] : ∀ l : List α, listLt l l = false
  | [] => rfl
  | x :: l => by rw [listLt, if_pos rfl]; exact listLt_irr l
theorem listLt_tr [OrdL α] : ∀ a b c : List α, listLt a b = true → listLt b c = true → listLt a c = true
  | [], [], _, h, _ => by cases h
  | [], _ :: _, [], _, h => by cases h
  | [], _ :: _, _ :: _, _, _ => rfl
  | _ :: _, [], _, h, _ => by cases h
  | _ :: _, _ :: _, [], _, h => by cases h
  | x :: a, y :: b, z :: c, h1, h2 => by
    rw [listLt] at h1 h2 ⊢
    by_cases e1 : x = y
    · rw [if_pos e1] at h1
      by_cases e2 : y = z
      · rw [if_pos e2] at h2; rw [if_pos (e1.trans e2)]; exact listLt_tr _ _ _ h1 h2
      · rw [if_neg e2] at h2; rw [e1, if_neg e2]; exact h2
    · rw [if_neg e1] at h1
      by_cases e2 : y = z
      · rw [if_pos e2] at h2; rw [← e2, if_neg e1]; exact h1
      · rw [if_neg e2] at h2
        have h3 := OrdL.tr _ _ _ h1 h2
        rw [if_neg (fun z => by rw [z, OrdL.irr] at h3; cases h3)]; exact h3
theorem listLt_tri [OrdL α] : ∀ a b : List α, a ≠ b → listLt a b = true ∨ listLt b a = true
  | [], [], h => absurd rfl h
  | [], _ :: _, _ => .inl rfl
  | _ :: _, [], _ => .inr rfl
  | x :: a, y :: b, h => by
    rw [listLt, listLt]
    by_cases e : x = y
    · subst e; rw [if_pos rfl, if_pos rfl]; exact listLt_tri a b fun z => h (by rw [z])
    · rw [if_neg e, if_neg (Ne.symm e)]; exact OrdL.tri _ _ e
instance [OrdL α] : OrdL (List α) := ⟨listLt_irr, listLt_tr, listLt_tri⟩
instance [OrdL α] : OrdL (Tup α) := ⟨fun a => listLt_irr a.items, fun a b c => listLt_tr a.items b.items c.items, fun a b h => listLt_tri a.items b.items fun z => h (by cases a; cases b; simp at z; rw [z])⟩
def t3p (p : PySem.W.T3 α β γ) : α × β × γ := (p.a, p.b, p.c)
theorem t3p_inj {p q : PySem.W.T3 α β γ} (h : t3p p = t3p q) : p = q := by
  simp only [t3p, Prod.mk.injEq] at h; exact PySem.W.T3.same h.1 h.2.1 h.2.2
theorem t3p_lt (p q : PySem.W.T3 α β γ) : DatumOrd.lt p q = DatumOrd.lt (t3p p) (t3p q) := rfl
instance [OrdL α] [OrdL β] [OrdL γ] : OrdL (PySem.W.T3 α β γ) := ⟨fun a => by rw [t3p_lt]; exact OrdL.irr _, fun a b c => by rw [t3p_lt, t3p_lt, t3p_lt]; exact OrdL.tr _ _ _, fun a b h => by rw [t3p_lt, t3p_lt]; exact OrdL.tri _ _ fun z => h (t3p_inj z)⟩
def t4p (p : T4 α β γ δ) : α × β × γ × δ := (p.a, p.b, p.c, p.d)
theorem t4p_inj {p q : T4 α β γ δ} (h : t4p p = t4p q) : p = q := by
  simp only [t4p, Prod.mk.injEq] at h; exact T4.same h.1 h.2.1 h.2.2.1 h.2.2.2
theorem t4p_lt (p q : T4 α β γ δ) : DatumOrd.lt p q = DatumOrd.lt (t4p p) (t4p q) := rfl
instance [OrdL α] [OrdL β] [OrdL γ] [OrdL δ] : OrdL (T4 α β γ δ) := ⟨fun a => by rw [t4p_lt]; exact OrdL.irr _, fun a b c => by rw [t4p_lt, t4p_lt, t4p_lt]; exact OrdL.tr _ _ _, fun a b h => by rw [t4p_lt, t4p_lt]; exact OrdL.tri _ _ fun z => h (t4p_inj z)⟩
instance [WD α] [WD β] [WD γ] : WD (PySem.W.T3 α β γ) := ⟨fun p => .tup [WD.w p.a, WD.w p.b, WD.w p.c], fun g p => dw_tup3 (WD.hw g p.a) (WD.hw g p.b) (WD.hw g p.c)⟩
instance [WD α] [WD β] [WD γ] [WD δ] : WD (T4 α β γ δ) := ⟨fun p => .tup [WD.w p.a, WD.w p.b, WD.w p.c, WD.w p.d], fun g p => dw_tup4 (WD.hw g p.a) (WD.hw g p.b) (WD.hw g p.c) (WD.hw g p.d)⟩
end
section
variable {α : Type} [DecidableEq α] [DatumOrd α] [OrdL α]
def oLe (a b : α) : Bool := !DatumOrd.lt b a
theorem oLe_total (a b : α) : (oLe a b || oLe b a) = true := by
  unfold oLe
  cases h1 : DatumOrd.lt b a with
  | false => rfl
  | true => cases h2 : DatumOrd.lt a b with
    | false => rfl
    | true => have := OrdL.tr _ _ _ h1 h2; rw [OrdL.irr] at this; cases this
theorem oLe_anti (a b : α) (h1 : oLe a b = true) (h2 : oLe b a = true) : a = b := by
  by_cases e : a = b
  · exact e
  · unfold oLe at h1 h2
    rcases OrdL.tri a b e with h | h
    · rw [h] at h2; cases h2
    · rw [h] at h1; cases h1
theorem oLe_trans (a b c : α) (h1 : oLe a b = true) (h2 : oLe b c = true) : oLe a c = true := by
  unfold oLe at *
  cases h : DatumOrd.lt c a with
  | false => rfl
  | true =>
    exfalso
    have h1 : DatumOrd.lt b a = false := by simpa using h1
    have h2 : DatumOrd.lt c b = false := by simpa using h2
    by_cases e : a = b
    · subst e; rw [h2] at h; cases h
    · rcases OrdL.tri a b e with k | k
      · have := OrdL.tr _ _ _ h k; rw [h2] at this; cases this
      · rw [h1] at k; cases k
def srtd (l : List α) : List α := l.mergeSort oLe
theorem srtd_perm (l : List α) : (srtd l).Perm l := List.mergeSort_perm l oLe
theorem srtd_pw (l : List α) : (srtd l).Pairwise fun a b => oLe a b = true := List.pairwise_mergeSort oLe_trans oLe_total l
theorem srtd_eq {l m : List α} (p : m.Perm l) (s : m.Pairwise fun a b => oLe a b = true) : srtd l = m :=
  List.Perm.eq_of_pairwise (le := fun a b => oLe a b = true) (fun a b _ _ h1 h2 => oLe_anti a b h1 h2) (srtd_pw l) s ((srtd_perm l).trans p.symm)
theorem srtd_len (l : List α) : (srtd l).length = l.length := (srtd_perm l).length_eq
theorem srtd_mem {l : List α} {x : α} : x ∈ srtd l ↔ x ∈ l := (srtd_perm l).mem_iff
end
theorem dw_fn {g : G} {w : W} {d : PyData} (h : DW g w d) : ∀ d', DW g w d' → d = d' := by
  have list : ∀ {xs : List W} {ds ds' : List PyData}, xs.length = ds.length → xs.length = ds'.length → (∀ (i : Nat) (x : W) (d : PyData), xs[i]? = some x → ds[i]? = some d → ∀ d', DW g x d' → d = d') →
      (∀ (i : Nat) (x : W) (d : PyData), xs[i]? = some x → ds'[i]? = some d → DW g x d) → ds = ds' := fun {xs ds ds'} n n' k k' => by
    refine List.ext_getElem (by omega) fun i h1 h2 => ?_
    have hx : i < xs.length := by omega
    exact k i _ _ (List.getElem?_eq_getElem hx) (List.getElem?_eq_getElem h1) _ (k' i _ _ (List.getElem?_eq_getElem hx) (List.getElem?_eq_getElem h2))
  induction h with
  | non => intro d' h'; cases h'; rfl
  | bl b => intro d' h'; cases h'; rfl
  | int b => intro d' h'; cases h'; rfl
  | str b => intro d' h'; cases h'; rfl
  | lst e n k ih =>
    intro d' h'
    cases h' with
    | lst e' n' k' => rw [e] at e'; cases e'; exact congrArg PyData.list (list n n' ih k')
  | tup n k ih => intro d' h'; cases h' with | tup n' k' => exact congrArg PyData.tuple (list n n' ih k')
  | scr n k ih => intro d' h'; cases h' with | scr n' k' => exact congrArg PyData.list (list n n' ih k')
  | lv n k ih => intro d' h'; cases h' with | lv n' k' => exact congrArg PyData.list (list n n' ih k')
section
variable {α : Type} [DecidableEq α] [DatumOrd α] [OrdL α] [WD α] {g : G} {q : VK3} {xs : List α}
open Classical in
noncomputable def encW (α : Type) [DecidableEq α] [DatumOrd α] [WD α] (w : W) : PyData := if h : ∃ x : α, WD.w x = w then Datum.toD h.choose else .none
theorem encW_w (x : α) : encW α (WD.w x) = Datum.toD x := by
  have h : ∃ y : α, WD.w y = WD.w x := ⟨x, rfl⟩
  unfold encW
  rw [dif_pos h]
  have e := h.choose_spec
  have h1 := WD.hw (fun _ => none) h.choose
  rw [e] at h1
  exact dw_fn h1 _ (WD.hw _ x)
def SortOk (α : Type) [DecidableEq α] [Datum α] : Prop := (∀ x : α, ∃ d r, Datum.toD x = .tuple (d :: r)) ∨ ∀ x : α, Datum.toD x ≠ .none ∧ ∀ xs, Datum.toD x ≠ .tuple xs
theorem sort_w (hs : SortOk α) (hd : Datum.depth α ≤ 64 := by decide) (h : newL g ((srtd xs).map WD.w) q) : sortL (xs.map WD.w) g q := by
  have em : (xs.map WD.w).map (encW α) = xs.map Datum.toD := by rw [List.map_map]; exact List.map_congr_left fun x _ => encW_w x
  refine ⟨encW α, fun x hx => ?_, ?_, ?_, fun x hx => ?_, ?_⟩
  · obtain ⟨y, _, rfl⟩ := List.mem_map.mp hx; rw [encW_w]; exact WD.hw g y
  · rw [em]; exact AllAlike.of fun b b' => DatumOrd.alike b b'
  · rw [em]
    rcases hs with hs | hs
    · exact .inl fun d hd => by obtain ⟨x, _, rfl⟩ := List.mem_map.mp hd; exact hs x
    · exact .inr fun d hd => by obtain ⟨x, _, rfl⟩ := List.mem_map.mp hd; exact hs x
  · obtain ⟨y, _, rfl⟩ := List.mem_map.mp hx; rw [encW_w]; exact Nat.le_trans (Datum.depth_le y) hd
  · have e : (xs.map WD.w).mergeSort (dataLe false (encW α)) = (srtd xs).map WD.w := by
      unfold srtd
      rw [List.map_mergeSort]
      intro a _ b _
      rw [dataLe_eq]
      show oLe a b = !dataLt (encW α (WD.w b)) (encW α (WD.w a))
      rw [encW_w, encW_w, DatumOrd.lt_eq]; rfl
    rw [e]; exact h
theorem sok_int : SortOk Int := .inr fun x => ⟨fun z => (by cases z), fun xs z => (by cases z)⟩
theorem sok_pair {α β : Type} [DecidableEq α] [Datum α] [DecidableEq β] [Datum β] : SortOk (α × β) := .inl fun x => ⟨_, _, rfl⟩
end
end L3
set_option maxRecDepth 100000
set_option maxHeartbeats 4000000
namespace L3
open PySem L2 PySem.W
section
variable {α : Type} {f : α → W} {g : G} {q : VK3} {a : Addr} {xs : List α} {k : Nat} {x : α}
theorem ixV_m (e : xs[k]? = some x) (hq : q (f x) g) : ixS (.lv (xs.map f)) (.int (k : Int)) g q := ⟨f x, by rw [atI_n, List.getElem?_map, e]; rfl, hq⟩
theorem app_m {v : W} (h : g a = some (.lst (xs.map f))) (hl : xs.length ≤ 100000) (hv : v = f x) (hq : q .non (gup g a (.lst ((xs ++ [x]).map f)))) : appendS (.ref a) [v] g q := by
  simp only [appendS]
  rw [lstAt_of h]
  exact ⟨small_line (by rw [List.length_map]; exact hl), by subst hv; simpa using hq⟩
theorem get_lt (h : k < xs.length) : xs[k]? = some xs[k] := List.getElem?_eq_getElem h
theorem cutW_to (k : Nat) : cutW (xs.map f) none (some (k : Int)) = (xs.take k).map f := by rw [cutW_take, List.map_take]
theorem cutW_from (k : Nat) : cutW (xs.map f) (some (k : Int)) none = (xs.drop k).map f := by rw [cutW_drop, List.map_drop]
theorem lc_val {β : Type} {u : β → W} {c : α → Bool} {e : α → β} {i : Nat} {tt : Sx → G → (Bool → G → Prop) → Prop} {te : Sx → G → VK3 → Prop} {s : Sx} :
    ∀ (xs : List α) (acc : List W), (∀ x ∈ xs, ∀ k : Bool → G → Prop, k (c x) g → tt (s.set i (some (f x))) g k) → (∀ x ∈ xs, c x = true → ∀ k : VK3, k (u (e x)) g → te (s.set i (some (f x))) g k) → xs.length + acc.length ≤ 100000 →
      newL g (acc ++ ((xs.filter c).map e).map u) q → lcI (.name i) (fun _ => True) tt te s q (xs.map f) acc g := fun xs acc h1 h2 h3 h4 =>
  lc_pure (c := c) (e := fun x => u (e x)) trivial xs acc h1 h2 h3 (by rw [List.map_map] at h4; exact h4)
theorem lc_all {β : Type} {u : β → W} {e : α → β} {i : Nat} {te : Sx → G → VK3 → Prop} {s : Sx} (xs : List α) (h2 : ∀ x ∈ xs, ∀ k : VK3, k (u (e x)) g → te (s.set i (some (f x))) g k) (h3 : xs.length ≤ 100000)
      (h4 : newL g ((xs.map e).map u) q) : lcI (.name i) (fun _ => True) (fun _ g2 k => k true g2) te s q (xs.map f) [] g := by
  refine lc_pure (c := fun _ => true) (e := fun x => u (e x)) trivial xs [] (fun x _ k h => h) (fun x hx _ => h2 x hx) (by simpa using h3) ?_
  rw [List.map_map] at h4
  have e1 : xs.filter (fun _ => true) = xs := List.filter_eq_self.mpr fun _ _ => rfl
  rw [e1]
  exact h4
end
theorem app_of {g : G} {q : VK3} {a : Addr} {xs : List W} {v : W} (h : g a = some (.lst xs)) (hl : xs.length ≤ 100000) (hq : q .non (gup g a (.lst (xs ++ [v])))) : appendS (.ref a) [v] g q := by
  simp only [appendS]
  rw [lstAt_of h]
  exact ⟨small_line hl, hq⟩
section
variable {g : G} {q : VK3} {i j : Int}
theorem mul_of (hm : IntMulOk i j) (hq : q (.int (i * j)) g) : mulS (.int i) (.int j) g q := ⟨hm, hq⟩
theorem mod_of (h0 : j ≠ 0) (hq : q (.int (i.fmod j)) g) : modS (.int i) (.int j) g q := ⟨h0, hq⟩
theorem i2_eq {c : Int → Int → Prop} {f : Int → Int → W} (h : c i j) : i2S c f (.int i) (.int j) g q = q (f i j) g := propext ⟨fun h => h.2, fun k => ⟨h, k⟩⟩
theorem lt64 {i : Int} (h1 : -18446744073709551616 < i) (h2 : i < 18446744073709551616) : i.natAbs < 2 ^ 64 := by
  have e : (2 : Nat) ^ 64 = 18446744073709551616 := by decide
  omega
theorem mulS_l (h1 : -18446744073709551616 < i) (h2 : i < 18446744073709551616) : mulS (.int i) (.int j) g q = q (.int (i * j)) g := show i2S IntMulOk (fun i j => .int (i * j)) (.int i) (.int j) g q = q (.int (i * j)) g from i2_eq (IntMulOk.of_left (PyProof.Rows.intBits_le (k := 64) (lt64 h1 h2)))
theorem mulS_r (h1 : -18446744073709551616 < j) (h2 : j < 18446744073709551616) : mulS (.int i) (.int j) g q = q (.int (i * j)) g := show i2S IntMulOk (fun i j => .int (i * j)) (.int i) (.int j) g q = q (.int (i * j)) g from i2_eq (IntMulOk.of_right (PyProof.Rows.intBits_le (k := 64) (lt64 h1 h2)))
theorem fdivS_k (h0 : 0 < j) (h : j < 1073741824) : fdivS (.int i) (.int j) g q = q (.int (i.fdiv j)) g := i2_eq (div_small (by omega) (by omega))
theorem modS_k (h0 : 0 < j) : modS (.int i) (.int j) g q = q (.int (i.fmod j)) g := i2_eq (by omega)
theorem powS_10 (h0 : 0 ≤ j) (h : j ≤ 100000) : powS (.int 10) (.int j) g q = q (.int (10 ^ j.toNat)) g := i2_eq (pow_ok (n := 4) (by decide) h0 (by omega))
theorem powS_2 (h0 : 0 ≤ j) (h : j ≤ 100000) : powS (.int 2) (.int j) g q = q (.int (2 ^ j.toNat)) g := i2_eq (pow_ok (n := 2) (by decide) h0 (by omega))
theorem subS_ii : subS (.int i) (.int j) g q = q (.int (i - j)) g := i2_eq trivial
theorem negS_i : negS (.int i) g q = q (.int (-i)) g := rfl
end
theorem mul_sm {i j : Int} (hi : i.natAbs < 1152921504606846976) (hj : j.natAbs < 1152921504606846976) : IntMulOk i j := mul_ok (a := 60) (b := 60) hi hj (by decide)
section
variable {g : G} {q : VK3} {i j : Int} {z y : Str}
theorem ltS_ii : ltS (.int i) (.int j) g q = q (.bl (decide (i < j))) g := rfl
theorem leS_ii : leS (.int i) (.int j) g q = q (.bl (decide (i ≤ j))) g := rfl
theorem gtS_ii : gtS (.int i) (.int j) g q = q (.bl (decide (j < i))) g := rfl
theorem geS_ii : geS (.int i) (.int j) g q = q (.bl (decide (j ≤ i))) g := rfl
theorem ltS_ss : ltS (.str z) (.str y) g q = q (.bl (decide (z.cps.toList < y.cps.toList))) g := rfl
theorem leS_ss : leS (.str z) (.str y) g q = q (.bl (!decide (y.cps.toList < z.cps.toList))) g := rfl
end
end L3
set_option maxRecDepth 100000
set_option maxHeartbeats 4000000
namespace L3
open PySem L2 PySem.W
section
variable {g : G} {q : VK3} {a : Addr}
theorem map_kl {L : List Int} : L.map W.int = (L.map (Sum.inl : Int → Key)).map kW := by rw [List.map_map]; rfl
theorem keys_ints : ∀ {ms : List Key}, (∀ k ∈ ms, ∃ i : Int, k = Sum.inl i) → ∃ T : List Int, ms = T.map Sum.inl
  | [], _ => ⟨[], rfl⟩
  | k :: ms, hi => by
    obtain ⟨i, rfl⟩ := hi k List.mem_cons_self
    obtain ⟨T, rfl⟩ := keys_ints (ms := ms) fun k hk => hi k (List.mem_cons_of_mem _ hk)
    exact ⟨i :: T, rfl⟩
theorem sset_ints {L : List Int} (hl : L.length ≤ 4000) (hq : ∀ S : List Int, S.Pairwise (· < ·) → (∀ x, x ∈ S ↔ x ∈ L) → newL g (S.map W.int) q) : ssetS (.lv (L.map W.int)) g q := by
  refine ⟨L.map Sum.inl, map_kl, by simpa using hl, fun ms hn hm => ?_⟩
  have hi : ∀ k ∈ ms, ∃ i ∈ L, k = Sum.inl i := fun k hk => by
    obtain ⟨i, h1, h2⟩ := List.mem_map.mp ((hm k).mp hk)
    exact ⟨i, h1, h2.symm⟩
  obtain ⟨T, rfl⟩ := keys_ints fun k hk => let ⟨i, _, e⟩ := hi k hk; ⟨i, e⟩
  have nt : T.Nodup := hn.of_map _ fun a b h z => h (by rw [z])
  rw [← map_kl]
  refine sort_w (xs := T) sok_int (by decide) ?_
  refine hq (srtd T) ?_ fun x => ?_
  · have p := srtd_perm T
    have nd : (srtd T).Nodup := p.nodup_iff.mpr nt
    have pw := srtd_pw T
    refine (List.Pairwise.and pw nd).imp fun {a b} h => ?_
    obtain ⟨h1, h2⟩ := h
    have h1 : a ≤ b := by
      have : (!decide (b < a)) = true := h1
      simpa using this
    omega
  · rw [srtd_mem]
    have := hm (Sum.inl x)
    simpa using this
theorem rise_same {S T : List Int} (h1 : S.Pairwise (· < ·)) (h2 : T.Pairwise (· < ·)) (h : ∀ x, x ∈ S ↔ x ∈ T) : S = T := by
  have n1 : S.Nodup := h1.imp fun h z => by omega
  have n2 : T.Nodup := h2.imp fun h z => by omega
  exact List.Perm.eq_of_pairwise (le := fun a b : Int => a < b) (fun a b _ _ h1 h2 => by omega) h1 h2 ((List.perm_ext_iff_of_nodup n1 n2).mpr h)
end
end L3
set_option maxRecDepth 100000
set_option maxHeartbeats 4000000
set_option exponentiation.threshold 100000
namespace Z
open PySem L2 L3 PySem.W
def top (i : Nat) : Stmt := PySem.Challenge.pw_stovework_k58_roster_dealt.main.body.getD i (.Pass ⟨0, 0, 0, 0⟩)
def topm (i j : Nat) : Stmt := match top i with
  | .ClassDef _ _ _ b .. => b.getD j (.Pass ⟨0, 0, 0, 0⟩)
  | _ => .Pass ⟨0, 0, 0, 0⟩
def b0_2 : Ss3 := .cons (.ret (.bl false)) .nil
def b0_5 : Ss3 := .cons (.ret (.bl false)) .nil
def b0_4 : Ss3 := .cons (.ifS (.not (.cmp2 .le .lt (.int 0) (.ix (.ix (.var 2) (.var 4)) (.int 2)) (.prim .len (.cons (.ix (.attr (.var 0) "tasks") (.var 4)) .nil)))) b0_5 .nil) .nil
def b0_6 : Ss3 := .cons (.ret (.bl true)) .nil
def b0_3 : Ss3 := .cons (.for_ (.name 4) (.rng1 (.prim .len (.cons (.var 2) .nil))) b0_4) b0_6
def b0_1 : Ss3 := .cons (.ifS (.or (.cons (.cmp .ne (.prim .len (.cons (.var 2) .nil)) (.prim .len (.cons (.attr (.var 0) "tasks") .nil))) (.cons (.cmp .ne (.prim .len (.cons (.var 3) .nil)) (.attr (.var 0) "moments")) .nil))) b0_2 .nil) b0_3
def b0_0 : Ss3 := .cons (.setT [2, 3] (.var 1)) b0_1
def b1_2 : Ss3 := .cons (.ret (.ix (.ix (.var 2) (.bin .fdiv (.var 1) (.int 2))) (.bin .mod (.var 1) (.int 2)))) .nil
def b1_3 : Ss3 := .cons (.ret (.ix (.var 3) (.bin .sub (.var 1) (.bin .mul (.int 2) (.prim .len (.cons (.var 2) .nil)))))) .nil
def b1_1 : Ss3 := .cons (.ifS (.cmp .lt (.var 1) (.bin .mul (.int 2) (.prim .len (.cons (.var 2) .nil)))) b1_2 .nil) b1_3
def b1_0 : Ss3 := .cons (.setT [2, 3] (.var 0)) b1_1
def b2_0 : Ss3 := .cons (.ret (.and (.cons (.cmp .lt (.ix (.var 0) (.int 0)) (.ix (.var 1) (.int 1))) (.cons (.cmp .lt (.ix (.var 1) (.int 0)) (.ix (.var 0) (.int 1))) .nil)))) .nil
def b3_0 : Ss3 := .cons (.ret (.ix (.ix (.attr (.var 0) "tasks") (.var 2)) (.ix (.ix (.ix (.var 1) (.int 0)) (.var 2)) (.int 2)))) .nil
def b4_2 : Ss3 := .cons (.ret (.var 3)) .nil
def b4_1 : Ss3 := .cons (.ifS (.cmp .eq (.var 2) (.var 1)) b4_2 .nil) .nil
def b4_3 : Ss3 := .cons (.ret (.int 0)) .nil
def b4_0 : Ss3 := .cons (.for_ (.tup [2, 3, 4]) (.seq (.ix (.var 0) (.int 2))) b4_1) b4_3
def b5_2 : Ss3 := .cons (.ret (.var 4)) .nil
def b5_1 : Ss3 := .cons (.ifS (.cmp .eq (.var 2) (.var 1)) b5_2 .nil) .nil
def b5_3 : Ss3 := .cons (.ret .non) .nil
def b5_0 : Ss3 := .cons (.for_ (.tup [2, 3, 4]) (.seq (.ix (.var 0) (.int 2))) b5_1) b5_3
def b6_3 : Ss3 := .cons (.set 4 (.bin .add (.var 4) (.call 4 (.cons (.call 3 (.cons (.var 0) (.cons (.var 1) (.cons (.var 5) .nil)))) (.cons (.var 2) .nil))))) .nil
def b6_2 : Ss3 := .cons (.ifS (.cmp2 .le .lt (.ix (.ix (.ix (.var 1) (.int 0)) (.var 5)) (.int 0)) (.var 3) (.ix (.ix (.ix (.var 1) (.int 0)) (.var 5)) (.int 1))) b6_3 .nil) .nil
def b6_4 : Ss3 := .cons (.ret (.var 4)) .nil
def b6_1 : Ss3 := .cons (.for_ (.name 5) (.rng1 (.prim .len (.cons (.ix (.var 1) (.int 0)) .nil))) b6_2) b6_4
def b6_0 : Ss3 := .cons (.set 4 (.int 0)) b6_1
def b7_5 : Ss3 := .cons (.expr (.meth .append (.var 2) (.cons (.tup (.cons (.str "turns") (.cons (.var 3) .nil))) .nil))) .nil
def b7_4 : Ss3 := .cons (.ifS (.or (.cons (.cmp .lt (.var 4) (.int 0)) (.cons (.not (.cmp2 .le .le (.ix (.var 7) (.int 0)) (.bin .sub (.var 5) (.var 4)) (.ix (.var 7) (.int 1)))) .nil))) b7_5 .nil) .nil
def b7_3 : Ss3 := .cons (.set 7 (.call 3 (.cons (.var 0) (.cons (.var 1) (.cons (.var 3) .nil))))) b7_4
def b7_2 : Ss3 := .cons (.setT [4, 5, 6] (.ix (.ix (.var 1) (.int 0)) (.var 3))) b7_3
def b7_8 : Ss3 := .cons (.expr (.meth .append (.var 2) (.cons (.tup (.cons (.str "moment") (.cons (.var 8) .nil))) .nil))) .nil
def b7_7 : Ss3 := .cons (.ifS (.cmp .lt (.ix (.ix (.var 1) (.int 1)) (.var 8)) (.int 0)) b7_8 .nil) .nil
def b7_9 : Ss3 := .cons (.ret (.frz (.var 2))) .nil
def b7_6 : Ss3 := .cons (.fz 2 (.for_ (.name 8) (.rng1 (.attr (.var 0) "moments")) b7_7)) b7_9
def b7_1 : Ss3 := .cons (.for_ (.name 3) (.rng1 (.prim .len (.cons (.ix (.var 1) (.int 0)) .nil))) b7_2) b7_6
def b7_0 : Ss3 := .cons (.set 2 (.lst .nil)) b7_1
def b8_4 : Ss3 := .cons (.expr (.meth .append (.var 2) (.cons (.tup (.cons (.str "arc") (.cons (.var 3) .nil))) .nil))) .nil
def b8_3 : Ss3 := .cons (.ifS (.cmp .lt (.call 1 (.cons (.var 1) (.cons (.var 5) .nil))) (.bin .add (.call 1 (.cons (.var 1) (.cons (.var 4) .nil))) (.var 6))) b8_4 .nil) .nil
def b8_2 : Ss3 := .cons (.setT [4, 5, 6] (.ix (.attr (.var 0) "arcs") (.var 3))) b8_3
def b8_8 : Ss3 := .cons (.expr (.meth .append (.var 2) (.cons (.tup (.cons (.str "apart") (.cons (.var 3) .nil))) .nil))) .nil
def b8_7 : Ss3 := .cons (.ifS (.call 2 (.cons (.ix (.ix (.var 1) (.int 0)) (.var 7)) (.cons (.ix (.ix (.var 1) (.int 0)) (.var 8)) .nil))) b8_8 .nil) .nil
def b8_6 : Ss3 := .cons (.setT [7, 8] (.ix (.attr (.var 0) "apart") (.var 3))) b8_7
def b8_9 : Ss3 := .cons (.ret (.frz (.var 2))) .nil
def b8_5 : Ss3 := .cons (.fz 2 (.for_ (.name 3) (.rng1 (.prim .len (.cons (.attr (.var 0) "apart") .nil))) b8_6)) b8_9
def b8_1 : Ss3 := .cons (.for_ (.name 3) (.rng1 (.prim .len (.cons (.attr (.var 0) "arcs") .nil))) b8_2) b8_5
def b8_0 : Ss3 := .cons (.set 2 (.lst .nil)) b8_1
def b9_4 : Ss3 := .cons (.expr (.meth .append (.var 2) (.cons (.tup (.cons (.str "tool") (.cons (.var 3) (.cons (.var 4) .nil)))) .nil))) .nil
def b9_3 : Ss3 := .cons (.ifS (.cmp .gt (.call 6 (.cons (.var 0) (.cons (.var 1) (.cons (.var 3) (.cons (.var 4) .nil))))) (.ix (.attr (.var 0) "tools") (.var 3))) b9_4 .nil) .nil
def b9_2 : Ss3 := .cons (.for_ (.name 4) (.seq (.frz (.sset (.frz (.lc (.ix (.var 5) (.int 0)) (.name 5) (.seq (.ix (.var 1) (.int 0))) .none [5]))))) b9_3) .nil
def b9_5 : Ss3 := .cons (.ret (.frz (.var 2))) .nil
def b9_1 : Ss3 := .cons (.fz 2 (.for_ (.name 3) (.seq (.frz (.prim .sorted (.cons (.attr (.var 0) "tools") .nil)))) b9_2)) b9_5
def b9_0 : Ss3 := .cons (.set 2 (.lst .nil)) b9_1
def b10_1 : Ss3 := .cons (.ret (.bl false)) .nil
def b10_4 : Ss3 := .cons (.ret (.and (.cons (.cmp .isnot (.var 5) .non) (.cons (.cmp .isnot (.var 6) .non) (.cons (.cmp .ne (.var 5) (.var 6)) .nil))))) .nil
def b10_3 : Ss3 := .cons (.set 6 (.call 5 (.cons (.call 3 (.cons (.var 0) (.cons (.var 1) (.cons (.var 4) .nil)))) (.cons (.var 2) .nil)))) b10_4
def b10_2 : Ss3 := .cons (.set 5 (.call 5 (.cons (.call 3 (.cons (.var 0) (.cons (.var 1) (.cons (.var 3) .nil)))) (.cons (.var 2) .nil)))) b10_3
def b10_0 : Ss3 := .cons (.ifS (.not (.call 2 (.cons (.ix (.ix (.var 1) (.int 0)) (.var 3)) (.cons (.ix (.ix (.var 1) (.int 0)) (.var 4)) .nil)))) b10_1 .nil) b10_2
def b11_5 : Ss3 := .cons (.expr (.meth .append (.var 2) (.cons (.tup (.cons (.str "heat") (.cons (.var 3) (.cons (.var 4) (.cons (.var 5) .nil))))) .nil))) .nil
def b11_4 : Ss3 := .cons (.ifS (.call 10 (.cons (.var 0) (.cons (.var 1) (.cons (.var 3) (.cons (.var 4) (.cons (.var 5) .nil)))))) b11_5 .nil) .nil
def b11_3 : Ss3 := .cons (.for_ (.name 5) (.rng2 (.bin .add (.var 4) (.int 1)) (.prim .len (.cons (.ix (.var 1) (.int 0)) .nil))) b11_4) .nil
def b11_2 : Ss3 := .cons (.for_ (.name 4) (.rng1 (.prim .len (.cons (.ix (.var 1) (.int 0)) .nil))) b11_3) .nil
def b11_6 : Ss3 := .cons (.ret (.frz (.var 2))) .nil
def b11_1 : Ss3 := .cons (.fz 2 (.for_ (.name 3) (.seq (.frz (.prim .sorted (.cons (.attr (.var 0) "tools") .nil)))) b11_2)) b11_6
def b11_0 : Ss3 := .cons (.set 2 (.lst .nil)) b11_1
def b12_1 : Ss3 := .cons (.raise_ 0) .nil
def b12_3 : Ss3 := .cons (.ret (.frz (.bin .add (.frz (.bin .add (.var 2) (.call 9 (.cons (.var 0) (.cons (.var 1) .nil))))) (.call 11 (.cons (.var 0) (.cons (.var 1) .nil)))))) .nil
def b12_2 : Ss3 := .cons (.set 2 (.frz (.bin .add (.call 7 (.cons (.var 0) (.cons (.var 1) .nil))) (.call 8 (.cons (.var 0) (.cons (.var 1) .nil)))))) b12_3
def b12_0 : Ss3 := .cons (.ifS (.not (.call 0 (.cons (.var 0) (.cons (.var 1) .nil)))) b12_1 .nil) b12_2
def b13_0 : Ss3 := .cons (.ret (.cmp .eq (.call 12 (.cons (.var 0) (.cons (.var 1) .nil))) (.frz (.lst .nil)))) .nil
def b14_7 : Ss3 := .cons (.expr (.meth .extend (.var 8) (.cons (.ix (.var 4) (.var 9)) .nil))) .nil
def b14_6 : Ss3 := .cons (.ifS (.cmp .lt (.var 6) (.ix (.ix (.var 3) (.var 9)) (.int 1))) b14_7 .nil) .nil
def b14_10 : Ss3 := .cons (.expr (.meth .append (.var 5) (.cons (.var 7) .nil))) .nil
def b14_9 : Ss3 := .cons (.put (.var 4) (.var 7) (.sl (.var 10) .none (.some (.call 4 (.cons (.call 3 (.cons (.var 0) (.cons (.var 1) (.cons (.var 7) .nil)))) (.cons (.var 2) .nil)))))) b14_10
def b14_8 : Ss3 := .cons (.fz 10 (.set 10 (.lc (.var 13) (.name 13) (.rng1 (.ix (.attr (.var 0) "tools") (.var 2))) (.some (.cmp .notin (.var 13) (.var 8))) [13]))) b14_9
def b14_5 : Ss3 := .cons (.fz 8 (.for_ (.name 9) (.seq (.var 5)) b14_6)) b14_8
def b14_4 : Ss3 := .cons (.set 8 (.lst .nil)) b14_5
def b14_11 : Ss3 := .cons (.ret (.var 4)) .nil
def b14_3 : Ss3 := .cons (.fz 5 (.for_ (.tup [6, 7]) (.seq (.frz (.prim .sorted (.cons (.frz (.lc (.tup (.cons (.ix (.ix (.var 3) (.var 12)) (.int 0)) (.cons (.var 12) .nil))) (.name 12) (.rng1 (.prim .len (.cons (.var 3) .nil))) .none [12])) .nil)))) b14_4)) b14_11
def b14_2 : Ss3 := .cons (.set 5 (.lst .nil)) b14_3
def b14_1 : Ss3 := .cons (.set 4 (.lc (.lst .nil) (.name 11) (.seq (.var 3)) .none [11])) b14_2
def b14_0 : Ss3 := .cons (.set 3 (.ix (.var 1) (.int 0))) b14_1
def b15_1 : Ss3 := .cons (.raise_ 0) .nil
def b15_4 : Ss3 := .cons (.put (.var 2) (.var 3) (.call 14 (.cons (.var 0) (.cons (.var 1) (.cons (.var 3) .nil))))) .nil
def b15_5 : Ss3 := .cons (.ret (.var 2)) .nil
def b15_3 : Ss3 := .cons (.forK (.name 3) (.keys (.attr (.var 0) "tools")) b15_4) b15_5
def b15_2 : Ss3 := .cons (.set 2 (.dic false)) b15_3
def b15_0 : Ss3 := .cons (.ifS (.not (.call 13 (.cons (.var 0) (.cons (.var 1) .nil)))) b15_1 .nil) b15_2
def b16_1 : Ss3 := .cons (.raise_ 1) .nil
def b16_4 : Ss3 := .cons (.raise_ 1) .nil
def b16_3 : Ss3 := .cons (.ifS (.not (.cmp2 .le .le (.int 1) (.var 2) (.glob 1))) b16_4 .nil) .nil
def b16_5 : Ss3 := .cons (.ret (.prim .dict (.cons (.var 0) .nil))) .nil
def b16_2 : Ss3 := .cons (.forK (.tup [1, 2]) (.items (.var 0)) b16_3) b16_5
def b16_0 : Ss3 := .cons (.ifS (.cmp .gt (.prim .len (.cons (.var 0) .nil)) (.glob 0)) b16_1 .nil) b16_2
def b17_2 : Ss3 := .cons (.raise_ 1) .nil
def b17_6 : Ss3 := .cons (.raise_ 1) .nil
def b17_8 : Ss3 := .cons (.raise_ 1) .nil
def b17_9 : Ss3 := .cons (.expr (.meth .append (.var 5) (.cons (.var 6) .nil))) .nil
def b17_7 : Ss3 := .cons (.ifS (.or (.cons (.not (.cmp2 .le .le (.int 1) (.var 7) (.ix (.var 0) (.var 6)))) (.cons (.not (.cmp2 .le .le (.int 0) (.var 8) (.glob 6))) .nil))) b17_8 .nil) b17_9
def b17_5 : Ss3 := .cons (.ifS (.or (.cons (.cmp .notin (.var 6) (.var 0)) (.cons (.cmp .in_ (.var 6) (.var 5)) .nil))) b17_6 .nil) b17_7
def b17_10 : Ss3 := .cons (.ret (.tup (.cons (.var 2) (.cons (.var 3) (.cons (.frz (.prim .list (.cons (.var 4) .nil))) .nil))))) .nil
def b17_4 : Ss3 := .cons (.fz 5 (.for_ (.tup [6, 7, 8]) (.seq (.var 4)) b17_5)) b17_10
def b17_3 : Ss3 := .cons (.set 5 (.lst .nil)) b17_4
def b17_1 : Ss3 := .cons (.ifS (.not (.cmp3 .le .le .le (.int 1) (.var 2) (.var 3) (.glob 6))) b17_2 .nil) b17_3
def b17_0 : Ss3 := .cons (.setT [2, 3, 4] (.var 1)) b17_1
def b18_1 : Ss3 := .cons (.raise_ 1) .nil
def b18_5 : Ss3 := .cons (.raise_ 1) .nil
def b18_6 : Ss3 := .cons (.expr (.meth .append (.var 2) (.cons (.frz (.lc (.call 17 (.cons (.var 0) (.cons (.var 4) .nil))) (.name 4) (.seq (.var 3)) .none [4])) .nil))) .nil
def b18_4 : Ss3 := .cons (.ifS (.and (.cons (.cmp .ne (.prim .len (.cons (.var 3) .nil)) (.int 1)) (.cons (.cmp .ne (.prim .len (.cons (.var 3) .nil)) (.int 2)) .nil))) b18_5 .nil) b18_6
def b18_7 : Ss3 := .cons (.ret (.frz (.var 2))) .nil
def b18_3 : Ss3 := .cons (.fz 2 (.for_ (.name 3) (.seq (.var 1)) b18_4)) b18_7
def b18_2 : Ss3 := .cons (.set 2 (.lst .nil)) b18_3
def b18_0 : Ss3 := .cons (.ifS (.cmp .gt (.prim .len (.cons (.var 1) .nil)) (.glob 2)) b18_1 .nil) b18_2
def b19_1 : Ss3 := .cons (.raise_ 1) .nil
def b19_4 : Ss3 := .cons (.raise_ 1) .nil
def b19_6 : Ss3 := .cons (.raise_ 1) .nil
def b19_5 : Ss3 := .cons (.ifS (.not (.cmp2 .le .le (.neg (.glob 6)) (.var 4) (.glob 6))) b19_6 .nil) .nil
def b19_3 : Ss3 := .cons (.ifS (.or (.cons (.not (.cmp2 .le .lt (.int 0) (.var 2) (.var 0))) (.cons (.not (.cmp2 .le .lt (.int 0) (.var 3) (.var 0))) .nil))) b19_4 .nil) b19_5
def b19_7 : Ss3 := .cons (.ret (.frz (.prim .list (.cons (.var 1) .nil)))) .nil
def b19_2 : Ss3 := .cons (.for_ (.tup [2, 3, 4]) (.seq (.var 1)) b19_3) b19_7
def b19_0 : Ss3 := .cons (.ifS (.cmp .gt (.prim .len (.cons (.var 1) .nil)) (.glob 3)) b19_1 .nil) b19_2
def b20_1 : Ss3 := .cons (.ret (.frz (.lst .nil))) .nil
def b20_3 : Ss3 := .cons (.raise_ 1) .nil
def b20_6 : Ss3 := .cons (.raise_ 1) .nil
def b20_5 : Ss3 := .cons (.ifS (.or (.cons (.cmp .eq (.var 2) (.var 3)) (.cons (.not (.cmp2 .le .lt (.int 0) (.var 2) (.var 0))) (.cons (.not (.cmp2 .le .lt (.int 0) (.var 3) (.var 0))) .nil)))) b20_6 .nil) .nil
def b20_7 : Ss3 := .cons (.ret (.frz (.prim .list (.cons (.var 1) .nil)))) .nil
def b20_4 : Ss3 := .cons (.for_ (.tup [2, 3]) (.seq (.var 1)) b20_5) b20_7
def b20_2 : Ss3 := .cons (.ifS (.cmp .gt (.prim .len (.cons (.var 1) .nil)) (.glob 4)) b20_3 .nil) b20_4
def b20_0 : Ss3 := .cons (.ifS (.cmp .is (.var 1) .non) b20_1 .nil) b20_2
def b21_1 : Ss3 := .cons (.raise_ 1) .nil
def b21_6 : Ss3 := .cons (.seta (.var 0) "moments" (.var 5)) .nil
def b21_5 : Ss3 := .cons (.seta (.var 0) "apart" (.call 20 (.cons (.prim .len (.cons (.var 2) .nil)) (.cons (.var 4) .nil)))) b21_6
def b21_4 : Ss3 := .cons (.seta (.var 0) "arcs" (.call 19 (.cons (.bin .add (.bin .mul (.int 2) (.prim .len (.cons (.var 2) .nil))) (.var 5)) (.cons (.var 3) .nil)))) b21_5
def b21_3 : Ss3 := .cons (.seta (.var 0) "tasks" (.call 18 (.cons (.var 1) (.cons (.var 2) .nil)))) b21_4
def b21_2 : Ss3 := .cons (.seta (.var 0) "tools" (.call 16 (.cons (.var 1) .nil))) b21_3
def b21_0 : Ss3 := .cons (.ifS (.not (.cmp2 .le .le (.int 0) (.var 5) (.glob 5))) b21_1 .nil) b21_2
def b22_1 : Ss3 := .cons (.ret (.ix (.var 0) (.var 1))) .nil
def b22_2 : Ss3 := .cons (.ret (.int 0)) .nil
def b22_0 : Ss3 := .cons (.ifS (.cmp .lt (.var 1) (.prim .len (.cons (.var 0) .nil))) b22_1 .nil) b22_2
def b23_0 : Ss3 := .cons (.ret (.and (.cons (.isi (.var 0) "int") (.cons (.not (.isi (.var 0) "bool")) .nil)))) .nil
def b24_4 : Ss3 := .cons (.expr (.meth .append (.var 2) (.cons (.var 3) .nil))) .nil
def b24_3 : Ss3 := .cons (.set 3 (.bin .mod (.bin .add (.bin .add (.bin .add (.bin .mul (.var 3) (.int 69621)) (.bin .mul (.bin .fdiv (.var 3) (.int 127)) (.int 7))) (.int 40692)) (.bin .mul (.var 4) (.var 4))) (.int 2147483629))) b24_4
def b24_5 : Ss3 := .cons (.ret (.frz (.var 2))) .nil
def b24_2 : Ss3 := .cons (.fz 2 (.for_ (.name 4) (.rng1 (.var 1)) b24_3)) b24_5
def b24_1 : Ss3 := .cons (.set 3 (.bin .mod (.var 0) (.int 2147483629))) b24_2
def b24_0 : Ss3 := .cons (.set 2 (.lst .nil)) b24_1
def b25_2 : Ss3 := .cons (.ret (.var 1)) .nil
def b25_6 : Ss3 := .cons (.put (.var 1) (.frz (.bin .add (.frz (.bin .add (.frz (.sl (.var 3) .none (.some (.var 4)))) (.ix (.str "mfs") (.var 2)))) (.frz (.sl (.var 3) (.some (.var 4)) .none)))) (.bin .add (.int 1) (.bin .mod (.bin .fdiv (.ix (.var 0) (.var 2)) (.int 512)) (.int 8)))) .nil
def b25_5 : Ss3 := .cons (.set 4 (.bin .mod (.bin .fdiv (.ix (.var 0) (.var 2)) (.int 32)) (.bin .add (.prim .len (.cons (.var 3) .nil)) (.int 1)))) b25_6
def b25_4 : Ss3 := .cons (.set 3 (.bin .mul (.ix (.str "az") (.bin .mod (.ix (.var 0) (.var 2)) (.int 2))) (.bin .mod (.bin .fdiv (.ix (.var 0) (.var 2)) (.int 2)) (.int 11)))) b25_5
def b25_7 : Ss3 := .cons (.ret (.var 1)) .nil
def b25_3 : Ss3 := .cons (.for_ (.name 2) (.rng1 (.bin .add (.int 1) (.bin .mod (.ix (.var 0) (.int 3)) (.int 3)))) b25_4) b25_7
def b25_1 : Ss3 := .cons (.ifS (.cmp .eq (.bin .mod (.bin .fdiv (.ix (.var 0) (.int 3)) (.int 3)) (.int 8)) (.int 1)) b25_2 .nil) b25_3
def b25_0 : Ss3 := .cons (.set 1 (.dic false)) b25_1
def b26_4 : Ss3 := .cons (.expr (.meth .append (.var 2) (.cons (.tup (.cons (.ix (.var 3) (.var 4)) (.cons (.bin .add (.int 1) (.bin .mod (.bin .fdiv (.ix (.var 0) (.var 4)) (.int 2)) (.ix (.var 1) (.ix (.var 3) (.var 4))))) (.cons (.int 3) .nil)))) .nil))) .nil
def b26_3 : Ss3 := .cons (.ifS (.cmp .eq (.bin .mod (.ix (.var 0) (.var 4)) (.int 2)) (.int 1)) b26_4 .nil) .nil
def b26_6 : Ss3 := .cons (.set 2 (.lrev (.var 2))) .nil
def b26_7 : Ss3 := .cons (.ret (.frz (.var 2))) .nil
def b26_5 : Ss3 := .cons (.ifS (.cmp .eq (.bin .mod (.ix (.var 0) (.int 3)) (.int 2)) (.int 1)) b26_6 .nil) b26_7
def b26_2 : Ss3 := .cons (.fz 2 (.for_ (.name 4) (.rng1 (.prim .len (.cons (.var 3) .nil))) b26_3)) b26_5
def b26_1 : Ss3 := .cons (.set 3 (.frz (.prim .list (.cons (.var 1) .nil)))) b26_2
def b26_0 : Ss3 := .cons (.set 2 (.lst .nil)) b26_1
def b27_3 : Ss3 := .cons (.ret (.bl false)) .nil
def b27_2 : Ss3 := .cons (.ifS (.cmp .gt (.bin .add (.ix (.ix (.var 1) (.var 5)) (.var 8)) (.var 6)) (.ix (.var 0) (.var 5))) b27_3 .nil) .nil
def b27_1 : Ss3 := .cons (.for_ (.name 8) (.rng2 (.var 3) (.bin .add (.var 3) (.var 4))) b27_2) .nil
def b27_4 : Ss3 := .cons (.ret (.bl true)) .nil
def b27_0 : Ss3 := .cons (.for_ (.tup [5, 6, 7]) (.seq (.var 2)) b27_1) b27_4
def b28_2 : Ss3 := .cons (.put (.var 3) (.var 4) (.bin .mul (.frz (.lst (.cons (.int 0) .nil))) (.int 160))) .nil
def b28_11 : Ss3 := .cons (.set 10 (.var 6)) .nil
def b28_14 : Ss3 := .cons (.put (.ix (.var 3) (.var 4)) (.var 14) (.bin .add (.ix (.ix (.var 3) (.var 4)) (.var 14)) (.var 12))) .nil
def b28_13 : Ss3 := .cons (.for_ (.name 14) (.rng2 (.var 10) (.bin .add (.var 10) (.var 11))) b28_14) .nil
def b28_16 : Ss3 := .cons (.expr (.meth .append (.var 5) (.cons (.tup (.cons (.var 10) (.cons (.bin .add (.var 10) (.var 11)) (.cons (.var 9) .nil)))) .nil))) .nil
def b28_15 : Ss3 := .cons (.set 6 (.prim .max (.cons (.var 6) (.cons (.bin .add (.var 10) (.var 11)) .nil)))) b28_16
def b28_12 : Ss3 := .cons (.for_ (.tup [4, 12, 13]) (.seq (.var 9)) b28_13) b28_15
def b28_10 : Ss3 := .cons (.ifS (.not (.call 27 (.cons (.var 1) (.cons (.var 3) (.cons (.var 9) (.cons (.var 10) (.cons (.var 11) .nil))))))) b28_11 .nil) b28_12
def b28_9 : Ss3 := .cons (.set 11 (.bin .add (.int 1) (.bin .mod (.ix (.var 8) (.int 5)) (.int 5)))) b28_10
def b28_8 : Ss3 := .cons (.set 10 (.bin .mod (.ix (.var 8) (.int 4)) (.int 12))) b28_9
def b28_7 : Ss3 := .cons (.set 9 (.call 26 (.cons (.var 8) (.cons (.var 1) .nil)))) b28_8
def b28_6 : Ss3 := .cons (.set 8 (.call 24 (.cons (.bin .add (.bin .mul (.call 22 (.cons (.var 0) (.cons (.bin .add (.int 4) (.var 7)) .nil))) (.int 32)) (.var 7)) (.cons (.int 6) .nil)))) b28_7
def b28_17 : Ss3 := .cons (.ret (.frz (.var 5))) .nil
def b28_5 : Ss3 := .cons (.fz 5 (.for_ (.name 7) (.rng1 (.var 2)) b28_6)) b28_17
def b28_4 : Ss3 := .cons (.set 6 (.int 0)) b28_5
def b28_3 : Ss3 := .cons (.set 5 (.lst .nil)) b28_4
def b28_1 : Ss3 := .cons (.forK (.name 4) (.keys (.var 1)) b28_2) b28_3
def b28_0 : Ss3 := .cons (.set 3 (.dic false)) b28_1
def b29_5 : Ss3 := .cons (.set 2 (.bin .add (.var 2) (.var 4))) .nil
def b29_4 : Ss3 := .cons (.put (.var 1) (.var 3) (.tup (.cons (.var 2) (.cons (.bin .add (.var 2) (.var 4)) (.cons (.ix (.ix (.var 0) (.var 3)) (.int 2)) .nil))))) b29_5
def b29_3 : Ss3 := .cons (.set 4 (.bin .sub (.ix (.ix (.var 0) (.var 3)) (.int 1)) (.ix (.ix (.var 0) (.var 3)) (.int 0)))) b29_4
def b29_6 : Ss3 := .cons (.ret (.frz (.var 1))) .nil
def b29_2 : Ss3 := .cons (.fz 1 (.for_ (.name 3) (.rng3 (.bin .sub (.prim .len (.cons (.var 0) .nil)) (.int 1)) (.neg (.int 1)) (.neg (.int 1))) b29_3)) b29_6
def b29_1 : Ss3 := .cons (.set 2 (.int 0)) b29_2
def b29_0 : Ss3 := .cons (.set 1 (.prim .list (.cons (.var 0) .nil))) b29_1
def b30_7 : Ss3 := .cons (.put (.var 7) (.var 9) (.bl true)) .nil
def b30_6 : Ss3 := .cons (.for_ (.name 9) (.seq (.ix (.var 3) (.var 8))) b30_7) .nil
def b30_5 : Ss3 := .cons (.ifS (.cmp .gt (.ix (.ix (.var 0) (.var 8)) (.int 1)) (.var 5)) b30_6 .nil) .nil
def b30_10 : Ss3 := .cons (.put (.var 3) (.var 6) (.frz (.sl (.lc (.var 9) (.name 9) (.rng1 (.var 2)) (.some (.cmp .notin (.var 9) (.var 7))) [9]) .none (.some (.var 11))))) .nil
def b30_9 : Ss3 := .cons (.ifS (.cmp .eq (.var 10) (.var 1)) b30_10 .nil) .nil
def b30_11 : Ss3 := .cons (.expr (.meth .append (.var 4) (.cons (.var 6) .nil))) .nil
def b30_8 : Ss3 := .cons (.for_ (.tup [10, 11, 12]) (.seq (.ix (.ix (.var 0) (.var 6)) (.int 2))) b30_9) b30_11
def b30_4 : Ss3 := .cons (.for_ (.name 8) (.seq (.var 4)) b30_5) b30_8
def b30_3 : Ss3 := .cons (.set 7 (.dic false)) b30_4
def b30_12 : Ss3 := .cons (.ret (.frz (.var 3))) .nil
def b30_2 : Ss3 := .cons (.fz 4 (.fz 3 (.for_ (.tup [5, 6]) (.seq (.frz (.prim .sorted (.cons (.frz (.lc (.tup (.cons (.ix (.ix (.var 0) (.var 14)) (.int 0)) (.cons (.var 14) .nil))) (.name 14) (.rng1 (.prim .len (.cons (.var 0) .nil))) .none [14])) .nil)))) b30_3))) b30_12
def b30_1 : Ss3 := .cons (.set 4 (.lst .nil)) b30_2
def b30_0 : Ss3 := .cons (.set 3 (.lc (.frz (.lst .nil)) (.name 13) (.seq (.var 0)) .none [13])) b30_1
def b31_1 : Ss3 := .cons (.ret (.bl false)) .nil
def b31_4 : Ss3 := .cons (.ret (.bl false)) .nil
def b31_8 : Ss3 := .cons (.ret (.bl false)) .nil
def b31_7 : Ss3 := .cons (.ifS (.or (.cons (.not (.isi (.var 4) "list")) (.cons (.cmp .ne (.frz (.lc (.var 5) (.name 5) (.seq (.var 4)) (.some (.not (.call 23 (.cons (.var 5) .nil)))) [5])) (.frz (.lst .nil))) .nil))) b31_8 .nil) .nil
def b31_6 : Ss3 := .cons (.set 4 (.ix (.ix (.var 0) (.var 2)) (.var 3))) b31_7
def b31_5 : Ss3 := .cons (.for_ (.name 3) (.rng1 (.prim .len (.cons (.ix (.var 1) (.var 2)) .nil))) b31_6) .nil
def b31_3 : Ss3 := .cons (.ifS (.or (.cons (.cmp .notin (.var 2) (.var 0)) (.cons (.not (.isi (.ix (.var 0) (.var 2)) "list")) (.cons (.cmp .ne (.prim .len (.cons (.ix (.var 0) (.var 2)) .nil)) (.prim .len (.cons (.ix (.var 1) (.var 2)) .nil))) .nil)))) b31_4 .nil) b31_5
def b31_9 : Ss3 := .cons (.ret (.cmp .deq (.var 0) (.var 1))) .nil
def b31_2 : Ss3 := .cons (.forK (.name 2) (.keys (.var 1)) b31_3) b31_9
def b31_0 : Ss3 := .cons (.ifS (.or (.cons (.not (.isi (.var 0) "dict")) (.cons (.cmp .ne (.prim .len (.cons (.var 0) .nil)) (.prim .len (.cons (.var 1) .nil))) .nil))) b31_1 .nil) b31_2
def b32_1 : Ss3 := .cons (.expr (.call 15 (.cons (.var 0) (.cons (.var 1) .nil)))) .nil
def b32_3 : Ss3 := .cons (.ret (.bl false)) .nil
def b32_4 : Ss3 := .cons (.ret (.and (.cons (.isx 2 "NoPlan" [true, false]) (.cons (.isx 2 "ValueError" [true, true]) .nil)))) .nil
def b32_2 : Ss3 := .cons (.ifS (.or (.cons (.isx 2 "NoNet" [false, true]) (.cons (.isx 2 "TooFew" [false, false]) (.cons (.isx 2 "EmptyHeap" [false, false]) .nil)))) b32_3 .nil) b32_4
def b32_5 : Ss3 := .cons (.ret (.bl false)) .nil
def b32_0 : Ss3 := .cons (.try_ b32_1 "StoveError" [true, true] (some 2) b32_2 .nil) b32_5
def b33_3 : Ss3 := .cons (.set 2 (.int 24)) .nil
def b33_14 : Ss3 := .cons (.put (.var 10) (.var 11) (.call 30 (.cons (.var 6) (.cons (.var 11) (.cons (.ix (.var 1) (.var 11)) .nil))))) .nil
def b33_13 : Ss3 := .cons (.put (.var 9) (.var 11) (.call 30 (.cons (.var 3) (.cons (.var 11) (.cons (.ix (.var 1) (.var 11)) .nil))))) b33_14
def b33_18 : Ss3 := .cons (.ret (.bl false)) .nil
def b33_21 : Ss3 := .cons (.expr (.meth .append (.var 14) (.cons (.int 77) .nil))) .nil
def b33_22 : Ss3 := .cons (.expr (.meth .append (.ix (.var 13) (.var 11)) (.cons (.frz (.lst .nil)) .nil))) .nil
def b33_20 : Ss3 := .cons (.for_ (.name 14) (.seq (.ix (.var 13) (.var 11))) b33_21) b33_22
def b33_25 : Ss3 := .cons (.ret (.bl false)) .nil
def b33_27 : Ss3 := .cons (.ret (.bl true)) .nil
def b33_30 : Ss3 := .cons (.ret (.call 32 (.cons (.var 8) (.cons (.tup (.cons (.var 17) (.cons (.frz (.lst .nil)) .nil))) .nil)))) .nil
def b33_29 : Ss3 := .cons (.set 17 (.frz (.bin .add (.frz (.bin .add (.frz (.sl (.var 7) .none (.some (.var 16)))) (.frz (.lst (.cons (.tup (.cons (.ix (.ix (.var 7) (.var 16)) (.int 0)) (.cons (.bin .add (.bin .add (.ix (.ix (.var 7) (.var 16)) (.int 0)) (.bin .mul (.int 5) (.var 4))) (.int 1)) (.cons (.int 0) .nil)))) .nil))))) (.frz (.sl (.var 7) (.some (.bin .add (.var 16) (.int 1))) .none))))) b33_30
def b33_28 : Ss3 := .cons (.set 16 (.bin .mod (.call 22 (.cons (.var 0) (.cons (.int 3) .nil))) (.prim .len (.cons (.var 7) .nil)))) b33_29
def b33_26 : Ss3 := .cons (.ifS (.cmp .eq (.var 7) (.frz (.lst .nil))) b33_27 .nil) b33_28
def b33_24 : Ss3 := .cons (.ifS (.or (.cons (.not (.call 31 (.cons (.call 15 (.cons (.var 8) (.cons (.tup (.cons (.var 15) (.cons (.frz (.lst .nil)) .nil))) .nil))) (.cons (.var 10) .nil)))) (.cons (.not (.call 31 (.cons (.call 15 (.cons (.var 8) (.cons (.var 12) .nil))) (.cons (.var 9) .nil)))) .nil))) b33_25 .nil) b33_26
def b33_23 : Ss3 := .cons (.fz 15 (.set 15 (.lc (.tup (.cons (.bin .add (.var 5) (.bin .mul (.var 4) (.ix (.var 18) (.int 0)))) (.cons (.bin .add (.var 5) (.bin .mul (.var 4) (.ix (.var 18) (.int 1)))) (.cons (.int 0) .nil)))) (.name 18) (.seq (.var 6)) .none [18]))) b33_24
def b33_19 : Ss3 := .cons (.forK (.name 11) (.keys (.var 1)) b33_20) b33_23
def b33_17 : Ss3 := .cons (.ifS (.or (.cons (.not (.call 31 (.cons (.var 13) (.cons (.var 9) .nil)))) (.cons (.cmp .ne (.var 12) (.tup (.cons (.var 7) (.cons (.frz (.lst .nil)) .nil)))) .nil))) b33_18 .nil) b33_19
def b33_16 : Ss3 := .cons (.set 13 (.call 15 (.cons (.var 8) (.cons (.var 12) .nil)))) b33_17
def b33_15 : Ss3 := .cons (.set 12 (.tup (.cons (.frz (.prim .list (.cons (.var 7) .nil))) (.cons (.frz (.lst .nil)) .nil)))) b33_16
def b33_12 : Ss3 := .cons (.forK (.name 11) (.keys (.var 1)) b33_13) b33_15
def b33_11 : Ss3 := .cons (.set 10 (.dic false)) b33_12
def b33_10 : Ss3 := .cons (.set 9 (.dic false)) b33_11
def b33_9 : Ss3 := .cons (.set 8 (.new 0 21 (.cons (.var 1) (.cons (.frz (.lc (.frz (.lst (.cons (.tup (.cons (.int 1) (.cons (.bin .mul (.int 5) (.var 4)) (.cons (.ix (.var 18) (.int 2)) .nil)))) .nil))) (.name 18) (.seq (.var 3)) .none [18])) (.cons (.frz (.lst .nil)) .nil))))) b33_10
def b33_8 : Ss3 := .cons (.fz 7 (.set 7 (.lc (.tup (.cons (.bin .add (.var 5) (.bin .mul (.var 4) (.ix (.var 18) (.int 0)))) (.cons (.bin .add (.var 5) (.bin .mul (.var 4) (.ix (.var 18) (.int 1)))) (.cons (.int 0) .nil)))) (.name 18) (.seq (.var 3)) .none [18]))) b33_9
def b33_7 : Ss3 := .cons (.set 6 (.call 29 (.cons (.var 3) .nil))) b33_8
def b33_6 : Ss3 := .cons (.set 5 (.bin .mod (.call 22 (.cons (.var 0) (.cons (.int 3) .nil))) (.bin .pow (.int 10) (.int 59)))) b33_7
def b33_5 : Ss3 := .cons (.set 4 (.bin .add (.int 1) (.bin .mod (.call 22 (.cons (.var 0) (.cons (.int 2) .nil))) (.bin .pow (.int 10) (.int 8))))) b33_6
def b33_4 : Ss3 := .cons (.set 3 (.call 28 (.cons (.var 0) (.cons (.var 1) (.cons (.var 2) .nil))))) b33_5
def b33_2 : Ss3 := .cons (.ifS (.cmp .eq (.bin .mod (.bin .fdiv (.call 22 (.cons (.var 0) (.cons (.int 1) .nil))) (.int 9)) (.int 8)) (.int 1)) b33_3 .nil) b33_4
def b33_1 : Ss3 := .cons (.set 2 (.bin .mod (.call 22 (.cons (.var 0) (.cons (.int 1) .nil))) (.int 9))) b33_2
def b33_0 : Ss3 := .cons (.set 1 (.call 25 (.cons (.call 24 (.cons (.call 22 (.cons (.var 0) (.cons (.int 0) .nil))) (.cons (.int 4) .nil))) .nil))) b33_1
def d0 : FD3 := { name := "is_plan", glob := true, params := ["net", "plan"], dflt := [], slots := ["net", "plan", "runs", "times", "i"], body := b0_0 }
def d1 : FD3 := { name := "time_of", glob := true, params := ["plan", "point"], dflt := [], slots := ["plan", "point", "runs", "times"], body := b1_0 }
def d2 : FD3 := { name := "runs_meet", glob := true, params := ["one", "other"], dflt := [], slots := ["one", "other"], body := b2_0 }
def d3 : FD3 := { name := "way_run", glob := true, params := ["net", "plan", "i"], dflt := [], slots := ["net", "plan", "i"], body := b3_0 }
def d4 : FD3 := { name := "many_of", glob := true, params := ["way", "tool"], dflt := [], slots := ["way", "tool", "name", "many", "heat"], body := b4_0 }
def d5 : FD3 := { name := "heat_of", glob := true, params := ["way", "tool"], dflt := [], slots := ["way", "tool", "name", "many", "heat"], body := b5_0 }
def d6 : FD3 := { name := "in_use", glob := true, params := ["net", "plan", "tool", "t"], dflt := [], slots := ["net", "plan", "tool", "t", "found", "i"], body := b6_0 }
def d7 : FD3 := { name := "times_broken", glob := true, params := ["net", "plan"], dflt := [], slots := ["net", "plan", "found", "i", "begin", "end", "number", "way", "k"], body := b7_0 }
def d8 : FD3 := { name := "links_broken", glob := true, params := ["net", "plan"], dflt := [], slots := ["net", "plan", "found", "k", "p", "q", "lag", "i", "j"], body := b8_0 }
def d9 : FD3 := { name := "tools_broken", glob := true, params := ["net", "plan"], dflt := [], slots := ["net", "plan", "found", "tool", "t", "run"], body := b9_0 }
def d10 : FD3 := { name := "at_two_heats", glob := true, params := ["net", "plan", "tool", "i", "j"], dflt := [], slots := ["net", "plan", "tool", "i", "j", "one", "other"], body := b10_0 }
def d11 : FD3 := { name := "heats_broken", glob := true, params := ["net", "plan"], dflt := [], slots := ["net", "plan", "found", "tool", "i", "j"], body := b11_0 }
def d12 : FD3 := { name := "breaches", glob := true, params := ["net", "plan"], dflt := [], slots := ["net", "plan", "found"], body := b12_0 }
def d13 : FD3 := { name := "plan_fits", glob := true, params := ["net", "plan"], dflt := [], slots := ["net", "plan"], body := b13_0 }
def d14 : FD3 := { name := "pieces_of", glob := true, params := ["net", "plan", "tool"], dflt := [], slots := ["net", "plan", "tool", "runs", "found", "dealt", "begin", "i", "had", "j", "free", "run", "k", "piece"], body := b14_0 }
def d15 : FD3 := { name := "roster", glob := true, params := ["net", "plan"], dflt := [], slots := ["net", "plan", "told", "tool"], body := b15_0 }
def d16 : FD3 := { name := "kept_tools", glob := true, params := ["tools"], dflt := [], slots := ["tools", "tool", "number"], body := b16_0 }
def d17 : FD3 := { name := "kept_way", glob := true, params := ["tools", "way"], dflt := [], slots := ["tools", "way", "least", "most", "uses", "seen", "tool", "many", "heat"], body := b17_0 }
def d18 : FD3 := { name := "kept_tasks", glob := true, params := ["tools", "tasks"], dflt := [], slots := ["tools", "tasks", "found", "ways", "way"], body := b18_0 }
def d19 : FD3 := { name := "kept_arcs", glob := true, params := ["points", "arcs"], dflt := [], slots := ["points", "arcs", "p", "q", "lag"], body := b19_0 }
def d20 : FD3 := { name := "kept_pairs", glob := true, params := ["tasks", "pairs"], dflt := [], slots := ["tasks", "pairs", "i", "j"], body := b20_0 }
def d21 : FD3 := { name := "__init__", glob := false, params := ["self", "tools", "tasks", "arcs", "apart", "moments"], dflt := [.non, (.int 0)], slots := ["self", "tools", "tasks", "arcs", "apart", "moments"], body := b21_0 }
def d22 : FD3 := { name := "_law_cell_at", glob := true, params := ["_law_script", "_law_k"], dflt := [], slots := ["_law_script", "_law_k"], body := b22_0 }
def d23 : FD3 := { name := "_law_whole", glob := true, params := ["_law_found"], dflt := [], slots := ["_law_found"], body := b23_0 }
def d24 : FD3 := { name := "_law_drawn", glob := true, params := ["_law_cell", "_law_many"], dflt := [], slots := ["_law_cell", "_law_many", "_law_found", "_law_number", "_law_k"], body := b24_0 }
def d25 : FD3 := { name := "_law_tools", glob := true, params := ["_law_xs"], dflt := [], slots := ["_law_xs", "_law_tools_here", "_law_k", "_law_word", "_law_cut"], body := b25_0 }
def d26 : FD3 := { name := "_law_uses", glob := true, params := ["_law_xs", "_law_tools_here"], dflt := [], slots := ["_law_xs", "_law_tools_here", "_law_uses_here", "_law_names", "_law_k"], body := b26_0 }
def d27 : FD3 := { name := "_law_free", glob := true, params := ["_law_tools_here", "_law_loads", "_law_uses_here", "_law_begin", "_law_size"], dflt := [], slots := ["_law_tools_here", "_law_loads", "_law_uses_here", "_law_begin", "_law_size", "_law_name", "_law_many", "_law_heat", "_law_t"], body := b27_0 }
def d28 : FD3 := { name := "_law_placed", glob := true, params := ["_law_script", "_law_tools_here", "_law_many"], dflt := [], slots := ["_law_script", "_law_tools_here", "_law_many", "_law_loads", "_law_name", "_law_placed_here", "_law_last", "_law_i", "_law_xs", "_law_uses_here", "_law_begin", "_law_size", "_law_some", "_law_heat", "_law_t"], body := b28_0 }
def d29 : FD3 := { name := "_law_behind_one_another", glob := true, params := ["_law_placed_here"], dflt := [], slots := ["_law_placed_here", "_law_found", "_law_last", "_law_i", "_law_size"], body := b29_0 }
def d30 : FD3 := { name := "_law_dealt", glob := true, params := ["_law_placed_here", "_law_name", "_law_number"], dflt := [], slots := ["_law_placed_here", "_law_name", "_law_number", "_law_found", "_law_ahead", "_law_begin", "_law_i", "_law_had", "_law_j", "_law_piece", "_law_some", "_law_many", "_law_heat", "_law_thing", "_law_k"], body := b30_0 }
def d31 : FD3 := { name := "_law_told", glob := true, params := ["_law_found", "_law_due"], dflt := [], slots := ["_law_found", "_law_due", "_law_name", "_law_k", "_law_row", "_law_piece"], body := b31_0 }
def d32 : FD3 := { name := "_law_refused", glob := true, params := ["_law_net", "_law_plan"], dflt := [], slots := ["_law_net", "_law_plan", "e"], body := b32_0 }
def d33 : FD3 := { name := "law", glob := true, params := ["_law_script"], dflt := [], slots := ["_law_script", "_law_tools_here", "_law_many", "_law_placed_here", "_law_times", "_law_ahead", "_law_later", "_law_runs", "_law_net", "_law_due", "_law_other", "_law_name", "_law_plan", "_law_found", "_law_row", "_law_rest", "_law_at", "_law_far", "_law_one"], body := b33_0 }
def P : List FD3 := [d0, d1, d2, d3, d4, d5, d6, d7, d8, d9, d10, d11, d12, d13, d14, d15, d16, d17, d18, d19, d20, d21, d22, d23, d24, d25, d26, d27, d28, d29, d30, d31, d32, d33]
def gls : List Str := ["TOOLS", "NUMBER", "TASKS", "ARCS", "PAIRS", "MOMENTS", "GREAT"]
def fl : List Str := ["tools", "tasks", "arcs", "apart", "moments"]
def ocs : List OC3 := [⟨"Net", 21, []⟩]
def gl : Gs := ⟨fun i => ([(.int 12), (.int 8), (.int 24), (.int 600), (.int 300), (.int 8), (.int 1000000000)] : List W).getD i .non, none, ocs⟩
theorem glv_0 : gl.v 0 = (.int 12) := rfl
theorem glv_1 : gl.v 1 = (.int 8) := rfl
theorem glv_2 : gl.v 2 = (.int 24) := rfl
theorem glv_3 : gl.v 3 = (.int 600) := rfl
theorem glv_4 : gl.v 4 = (.int 300) := rfl
theorem glv_5 : gl.v 5 = (.int 8) := rfl
theorem glv_6 : gl.v 6 = (.int 1000000000) := rfl
def xs : List Str := ["NoPlan", "NoNet"]
def xf : List (Option Str) := [none, none]
def xfl : List Str := []
def cd : List CsD := [("StoveError", none, [true, true]), ("NoNet", none, [false, true]), ("TooFew", none, [false, false]), ("EmptyHeap", none, [false, false]), ("NoPlan", none, [true, false]), ("ValueError", some "ValueError", [true, true])]
def ics : List (Str × List Bool) := []
def cs : List (Str × List Bool) := cd.map fun d => (d.1, d.2.2)
theorem u0 {n : Nat} {w0 w1 : W} {g : G} {x : XK3} {q : VK3} (h : svs (callF P gl n) gl b0_0 (DD g x q) [some w0, some w1, none, none, none] g) : callF P gl (n + 1) 0 [w0, w1] g x q := ⟨rfl, h⟩
theorem u1 {n : Nat} {w0 w1 : W} {g : G} {x : XK3} {q : VK3} (h : svs (callF P gl n) gl b1_0 (DD g x q) [some w0, some w1, none, none] g) : callF P gl (n + 1) 1 [w0, w1] g x q := ⟨rfl, h⟩
theorem u2 {n : Nat} {w0 w1 : W} {g : G} {x : XK3} {q : VK3} (h : svs (callF P gl n) gl b2_0 (DD g x q) [some w0, some w1] g) : callF P gl (n + 1) 2 [w0, w1] g x q := ⟨rfl, h⟩
theorem u3 {n : Nat} {w0 w1 w2 : W} {g : G} {x : XK3} {q : VK3} (h : svs (callF P gl n) gl b3_0 (DD g x q) [some w0, some w1, some w2] g) : callF P gl (n + 1) 3 [w0, w1, w2] g x q := ⟨rfl, h⟩
theorem u4 {n : Nat} {w0 w1 : W} {g : G} {x : XK3} {q : VK3} (h : svs (callF P gl n) gl b4_0 (DD g x q) [some w0, some w1, none, none, none] g) : callF P gl (n + 1) 4 [w0, w1] g x q := ⟨rfl, h⟩
theorem u5 {n : Nat} {w0 w1 : W} {g : G} {x : XK3} {q : VK3} (h : svs (callF P gl n) gl b5_0 (DD g x q) [some w0, some w1, none, none, none] g) : callF P gl (n + 1) 5 [w0, w1] g x q := ⟨rfl, h⟩
theorem u6 {n : Nat} {w0 w1 w2 w3 : W} {g : G} {x : XK3} {q : VK3} (h : svs (callF P gl n) gl b6_0 (DD g x q) [some w0, some w1, some w2, some w3, none, none] g) : callF P gl (n + 1) 6 [w0, w1, w2, w3] g x q := ⟨rfl, h⟩
theorem u7 {n : Nat} {w0 w1 : W} {g : G} {x : XK3} {q : VK3} (h : svs (callF P gl n) gl b7_0 (DD g x q) [some w0, some w1, none, none, none, none, none, none, none] g) : callF P gl (n + 1) 7 [w0, w1] g x q := ⟨rfl, h⟩
theorem u8 {n : Nat} {w0 w1 : W} {g : G} {x : XK3} {q : VK3} (h : svs (callF P gl n) gl b8_0 (DD g x q) [some w0, some w1, none, none, none, none, none, none, none] g) : callF P gl (n + 1) 8 [w0, w1] g x q := ⟨rfl, h⟩
theorem u9 {n : Nat} {w0 w1 : W} {g : G} {x : XK3} {q : VK3} (h : svs (callF P gl n) gl b9_0 (DD g x q) [some w0, some w1, none, none, none, none] g) : callF P gl (n + 1) 9 [w0, w1] g x q := ⟨rfl, h⟩
theorem u10 {n : Nat} {w0 w1 w2 w3 w4 : W} {g : G} {x : XK3} {q : VK3} (h : svs (callF P gl n) gl b10_0 (DD g x q) [some w0, some w1, some w2, some w3, some w4, none, none] g) : callF P gl (n + 1) 10 [w0, w1, w2, w3, w4] g x q := ⟨rfl, h⟩
theorem u11 {n : Nat} {w0 w1 : W} {g : G} {x : XK3} {q : VK3} (h : svs (callF P gl n) gl b11_0 (DD g x q) [some w0, some w1, none, none, none, none] g) : callF P gl (n + 1) 11 [w0, w1] g x q := ⟨rfl, h⟩
theorem u12 {n : Nat} {w0 w1 : W} {g : G} {x : XK3} {q : VK3} (h : svs (callF P gl n) gl b12_0 (DD g x q) [some w0, some w1, none] g) : callF P gl (n + 1) 12 [w0, w1] g x q := ⟨rfl, h⟩
theorem u13 {n : Nat} {w0 w1 : W} {g : G} {x : XK3} {q : VK3} (h : svs (callF P gl n) gl b13_0 (DD g x q) [some w0, some w1] g) : callF P gl (n + 1) 13 [w0, w1] g x q := ⟨rfl, h⟩
theorem u14 {n : Nat} {w0 w1 w2 : W} {g : G} {x : XK3} {q : VK3} (h : svs (callF P gl n) gl b14_0 (DD g x q) [some w0, some w1, some w2, none, none, none, none, none, none, none, none, none, none, none] g) : callF P gl (n + 1) 14 [w0, w1, w2] g x q := ⟨rfl, h⟩
theorem u15 {n : Nat} {w0 w1 : W} {g : G} {x : XK3} {q : VK3} (h : svs (callF P gl n) gl b15_0 (DD g x q) [some w0, some w1, none, none] g) : callF P gl (n + 1) 15 [w0, w1] g x q := ⟨rfl, h⟩
theorem u16 {n : Nat} {w0 : W} {g : G} {x : XK3} {q : VK3} (h : svs (callF P gl n) gl b16_0 (DD g x q) [some w0, none, none] g) : callF P gl (n + 1) 16 [w0] g x q := ⟨rfl, h⟩
theorem u17 {n : Nat} {w0 w1 : W} {g : G} {x : XK3} {q : VK3} (h : svs (callF P gl n) gl b17_0 (DD g x q) [some w0, some w1, none, none, none, none, none, none, none] g) : callF P gl (n + 1) 17 [w0, w1] g x q := ⟨rfl, h⟩
theorem u18 {n : Nat} {w0 w1 : W} {g : G} {x : XK3} {q : VK3} (h : svs (callF P gl n) gl b18_0 (DD g x q) [some w0, some w1, none, none, none] g) : callF P gl (n + 1) 18 [w0, w1] g x q := ⟨rfl, h⟩
theorem u19 {n : Nat} {w0 w1 : W} {g : G} {x : XK3} {q : VK3} (h : svs (callF P gl n) gl b19_0 (DD g x q) [some w0, some w1, none, none, none] g) : callF P gl (n + 1) 19 [w0, w1] g x q := ⟨rfl, h⟩
theorem u20 {n : Nat} {w0 w1 : W} {g : G} {x : XK3} {q : VK3} (h : svs (callF P gl n) gl b20_0 (DD g x q) [some w0, some w1, none, none] g) : callF P gl (n + 1) 20 [w0, w1] g x q := ⟨rfl, h⟩
theorem u21_4 {n : Nat} {w0 w1 w2 w3 : W} {g : G} {x : XK3} {q : VK3} (h : svs (callF P gl n) gl b21_0 (DD g x q) [some w0, some w1, some w2, some w3, some .non, some (.int 0)] g) : callF P gl (n + 1) 21 [w0, w1, w2, w3] g x q := ⟨rfl, h⟩
theorem u22 {n : Nat} {w0 w1 : W} {g : G} {x : XK3} {q : VK3} (h : svs (callF P gl n) gl b22_0 (DD g x q) [some w0, some w1] g) : callF P gl (n + 1) 22 [w0, w1] g x q := ⟨rfl, h⟩
theorem u23 {n : Nat} {w0 : W} {g : G} {x : XK3} {q : VK3} (h : svs (callF P gl n) gl b23_0 (DD g x q) [some w0] g) : callF P gl (n + 1) 23 [w0] g x q := ⟨rfl, h⟩
theorem u24 {n : Nat} {w0 w1 : W} {g : G} {x : XK3} {q : VK3} (h : svs (callF P gl n) gl b24_0 (DD g x q) [some w0, some w1, none, none, none] g) : callF P gl (n + 1) 24 [w0, w1] g x q := ⟨rfl, h⟩
theorem u25 {n : Nat} {w0 : W} {g : G} {x : XK3} {q : VK3} (h : svs (callF P gl n) gl b25_0 (DD g x q) [some w0, none, none, none, none] g) : callF P gl (n + 1) 25 [w0] g x q := ⟨rfl, h⟩
theorem u26 {n : Nat} {w0 w1 : W} {g : G} {x : XK3} {q : VK3} (h : svs (callF P gl n) gl b26_0 (DD g x q) [some w0, some w1, none, none, none] g) : callF P gl (n + 1) 26 [w0, w1] g x q := ⟨rfl, h⟩
theorem u27 {n : Nat} {w0 w1 w2 w3 w4 : W} {g : G} {x : XK3} {q : VK3} (h : svs (callF P gl n) gl b27_0 (DD g x q) [some w0, some w1, some w2, some w3, some w4, none, none, none, none] g) : callF P gl (n + 1) 27 [w0, w1, w2, w3, w4] g x q := ⟨rfl, h⟩
theorem u28 {n : Nat} {w0 w1 w2 : W} {g : G} {x : XK3} {q : VK3} (h : svs (callF P gl n) gl b28_0 (DD g x q) [some w0, some w1, some w2, none, none, none, none, none, none, none, none, none, none, none, none] g) : callF P gl (n + 1) 28 [w0, w1, w2] g x q := ⟨rfl, h⟩
theorem u29 {n : Nat} {w0 : W} {g : G} {x : XK3} {q : VK3} (h : svs (callF P gl n) gl b29_0 (DD g x q) [some w0, none, none, none, none] g) : callF P gl (n + 1) 29 [w0] g x q := ⟨rfl, h⟩
theorem u30 {n : Nat} {w0 w1 w2 : W} {g : G} {x : XK3} {q : VK3} (h : svs (callF P gl n) gl b30_0 (DD g x q) [some w0, some w1, some w2, none, none, none, none, none, none, none, none, none, none, none, none] g) : callF P gl (n + 1) 30 [w0, w1, w2] g x q := ⟨rfl, h⟩
theorem u31 {n : Nat} {w0 w1 : W} {g : G} {x : XK3} {q : VK3} (h : svs (callF P gl n) gl b31_0 (DD g x q) [some w0, some w1, none, none, none, none] g) : callF P gl (n + 1) 31 [w0, w1] g x q := ⟨rfl, h⟩
theorem u32 {n : Nat} {w0 w1 : W} {g : G} {x : XK3} {q : VK3} (h : svs (callF P gl n) gl b32_0 (DD g x q) [some w0, some w1, none] g) : callF P gl (n + 1) 32 [w0, w1] g x q := ⟨rfl, h⟩
theorem u33 {n : Nat} {w0 : W} {g : G} {x : XK3} {q : VK3} (h : svs (callF P gl n) gl b33_0 (DD g x q) [some w0, none, none, none, none, none, none, none, none, none, none, none, none, none, none, none, none, none, none] g) : callF P gl (n + 1) 33 [w0] g x q := ⟨rfl, h⟩
theorem sc0 : FnScope d0.slots d0.params (defScope (top 7)) := ⟨rfl, rfl, rfl, by decide +kernel, rfl, by decide +kernel, by decide +kernel⟩
theorem ch0 : chkSs d0.body (ckOf P gls xs cs ocs fl ics xf xfl d0 (defScope (top 7))) (defBody (top 7)) = true := by decide +kernel
theorem sc1 : FnScope d1.slots d1.params (defScope (top 8)) := ⟨rfl, rfl, rfl, by decide +kernel, rfl, by decide +kernel, by decide +kernel⟩
theorem ch1 : chkSs d1.body (ckOf P gls xs cs ocs fl ics xf xfl d1 (defScope (top 8))) (defBody (top 8)) = true := by decide +kernel
theorem sc2 : FnScope d2.slots d2.params (defScope (top 9)) := ⟨rfl, rfl, rfl, by decide +kernel, rfl, by decide +kernel, by decide +kernel⟩
theorem ch2 : chkSs d2.body (ckOf P gls xs cs ocs fl ics xf xfl d2 (defScope (top 9))) (defBody (top 9)) = true := by decide +kernel
theorem sc3 : FnScope d3.slots d3.params (defScope (top 10)) := ⟨rfl, rfl, rfl, by decide +kernel, rfl, by decide +kernel, by decide +kernel⟩
theorem ch3 : chkSs d3.body (ckOf P gls xs cs ocs fl ics xf xfl d3 (defScope (top 10))) (defBody (top 10)) = true := by decide +kernel
theorem sc4 : FnScope d4.slots d4.params (defScope (top 11)) := ⟨rfl, rfl, rfl, by decide +kernel, rfl, by decide +kernel, by decide +kernel⟩
theorem ch4 : chkSs d4.body (ckOf P gls xs cs ocs fl ics xf xfl d4 (defScope (top 11))) (defBody (top 11)) = true := by decide +kernel
theorem sc5 : FnScope d5.slots d5.params (defScope (top 12)) := ⟨rfl, rfl, rfl, by decide +kernel, rfl, by decide +kernel, by decide +kernel⟩
theorem ch5 : chkSs d5.body (ckOf P gls xs cs ocs fl ics xf xfl d5 (defScope (top 12))) (defBody (top 12)) = true := by decide +kernel
theorem sc6 : FnScope d6.slots d6.params (defScope (top 13)) := ⟨rfl, rfl, rfl, by decide +kernel, rfl, by decide +kernel, by decide +kernel⟩
theorem ch6 : chkSs d6.body (ckOf P gls xs cs ocs fl ics xf xfl d6 (defScope (top 13))) (defBody (top 13)) = true := by decide +kernel
theorem sc7 : FnScope d7.slots d7.params (defScope (top 14)) := ⟨rfl, rfl, rfl, by decide +kernel, rfl, by decide +kernel, by decide +kernel⟩
theorem ch7 : chkSs d7.body (ckOf P gls xs cs ocs fl ics xf xfl d7 (defScope (top 14))) (defBody (top 14)) = true := by decide +kernel
theorem sc8 : FnScope d8.slots d8.params (defScope (top 15)) := ⟨rfl, rfl, rfl, by decide +kernel, rfl, by decide +kernel, by decide +kernel⟩
theorem ch8 : chkSs d8.body (ckOf P gls xs cs ocs fl ics xf xfl d8 (defScope (top 15))) (defBody (top 15)) = true := by decide +kernel
theorem sc9 : FnScope d9.slots d9.params (defScope (top 16)) := ⟨rfl, rfl, rfl, by decide +kernel, rfl, by decide +kernel, by decide +kernel⟩
theorem ch9 : chkSs d9.body (ckOf P gls xs cs ocs fl ics xf xfl d9 (defScope (top 16))) (defBody (top 16)) = true := by decide +kernel
theorem sc10 : FnScope d10.slots d10.params (defScope (top 17)) := ⟨rfl, rfl, rfl, by decide +kernel, rfl, by decide +kernel, by decide +kernel⟩
theorem ch10 : chkSs d10.body (ckOf P gls xs cs ocs fl ics xf xfl d10 (defScope (top 17))) (defBody (top 17)) = true := by decide +kernel
theorem sc11 : FnScope d11.slots d11.params (defScope (top 18)) := ⟨rfl, rfl, rfl, by decide +kernel, rfl, by decide +kernel, by decide +kernel⟩
theorem ch11 : chkSs d11.body (ckOf P gls xs cs ocs fl ics xf xfl d11 (defScope (top 18))) (defBody (top 18)) = true := by decide +kernel
theorem sc12 : FnScope d12.slots d12.params (defScope (top 19)) := ⟨rfl, rfl, rfl, by decide +kernel, rfl, by decide +kernel, by decide +kernel⟩
theorem ch12 : chkSs d12.body (ckOf P gls xs cs ocs fl ics xf xfl d12 (defScope (top 19))) (defBody (top 19)) = true := by decide +kernel
theorem sc13 : FnScope d13.slots d13.params (defScope (top 20)) := ⟨rfl, rfl, rfl, by decide +kernel, rfl, by decide +kernel, by decide +kernel⟩
theorem ch13 : chkSs d13.body (ckOf P gls xs cs ocs fl ics xf xfl d13 (defScope (top 20))) (defBody (top 20)) = true := by decide +kernel
theorem sc14 : FnScope d14.slots d14.params (defScope (top 22)) := ⟨rfl, rfl, rfl, by decide +kernel, rfl, by decide +kernel, by decide +kernel⟩
theorem ch14 : chkSs d14.body (ckOf P gls xs cs ocs fl ics xf xfl d14 (defScope (top 22))) (defBody (top 22)) = true := by decide +kernel
theorem sc15 : FnScope d15.slots d15.params (defScope (top 23)) := ⟨rfl, rfl, rfl, by decide +kernel, rfl, by decide +kernel, by decide +kernel⟩
theorem ch15 : chkSs d15.body (ckOf P gls xs cs ocs fl ics xf xfl d15 (defScope (top 23))) (defBody (top 23)) = true := by decide +kernel
theorem sc16 : FnScope d16.slots d16.params (defScope (top 32)) := ⟨rfl, rfl, rfl, by decide +kernel, rfl, by decide +kernel, by decide +kernel⟩
theorem ch16 : chkSs d16.body (ckOf P gls xs cs ocs fl ics xf xfl d16 (defScope (top 32))) (defBody (top 32)) = true := by decide +kernel
theorem sc17 : FnScope d17.slots d17.params (defScope (top 33)) := ⟨rfl, rfl, rfl, by decide +kernel, rfl, by decide +kernel, by decide +kernel⟩
theorem ch17 : chkSs d17.body (ckOf P gls xs cs ocs fl ics xf xfl d17 (defScope (top 33))) (defBody (top 33)) = true := by decide +kernel
theorem sc18 : FnScope d18.slots d18.params (defScope (top 34)) := ⟨rfl, rfl, rfl, by decide +kernel, rfl, by decide +kernel, by decide +kernel⟩
theorem ch18 : chkSs d18.body (ckOf P gls xs cs ocs fl ics xf xfl d18 (defScope (top 34))) (defBody (top 34)) = true := by decide +kernel
theorem sc19 : FnScope d19.slots d19.params (defScope (top 35)) := ⟨rfl, rfl, rfl, by decide +kernel, rfl, by decide +kernel, by decide +kernel⟩
theorem ch19 : chkSs d19.body (ckOf P gls xs cs ocs fl ics xf xfl d19 (defScope (top 35))) (defBody (top 35)) = true := by decide +kernel
theorem sc20 : FnScope d20.slots d20.params (defScope (top 36)) := ⟨rfl, rfl, rfl, by decide +kernel, rfl, by decide +kernel, by decide +kernel⟩
theorem ch20 : chkSs d20.body (ckOf P gls xs cs ocs fl ics xf xfl d20 (defScope (top 36))) (defBody (top 36)) = true := by decide +kernel
theorem sc21 : FnScope d21.slots d21.params (defScope (topm 37 0)) := ⟨rfl, rfl, rfl, by decide +kernel, rfl, by decide +kernel, by decide +kernel⟩
theorem ch21 : chkSs d21.body (ckOf P gls xs cs ocs fl ics xf xfl d21 (defScope (topm 37 0))) (defBody (topm 37 0)) = true := by decide +kernel
theorem sc22 : FnScope d22.slots d22.params (defScope (top 39)) := ⟨rfl, rfl, rfl, by decide +kernel, rfl, by decide +kernel, by decide +kernel⟩
theorem ch22 : chkSs d22.body (ckOf P gls xs cs ocs fl ics xf xfl d22 (defScope (top 39))) (defBody (top 39)) = true := by decide +kernel
theorem sc23 : FnScope d23.slots d23.params (defScope (top 40)) := ⟨rfl, rfl, rfl, by decide +kernel, rfl, by decide +kernel, by decide +kernel⟩
theorem ch23 : chkSs d23.body (ckOf P gls xs cs ocs fl ics xf xfl d23 (defScope (top 40))) (defBody (top 40)) = true := by decide +kernel
theorem sc24 : FnScope d24.slots d24.params (defScope (top 41)) := ⟨rfl, rfl, rfl, by decide +kernel, rfl, by decide +kernel, by decide +kernel⟩
theorem ch24 : chkSs d24.body (ckOf P gls xs cs ocs fl ics xf xfl d24 (defScope (top 41))) (defBody (top 41)) = true := by decide +kernel
theorem sc25 : FnScope d25.slots d25.params (defScope (top 42)) := ⟨rfl, rfl, rfl, by decide +kernel, rfl, by decide +kernel, by decide +kernel⟩
theorem ch25 : chkSs d25.body (ckOf P gls xs cs ocs fl ics xf xfl d25 (defScope (top 42))) (defBody (top 42)) = true := by decide +kernel
theorem sc26 : FnScope d26.slots d26.params (defScope (top 43)) := ⟨rfl, rfl, rfl, by decide +kernel, rfl, by decide +kernel, by decide +kernel⟩
theorem ch26 : chkSs d26.body (ckOf P gls xs cs ocs fl ics xf xfl d26 (defScope (top 43))) (defBody (top 43)) = true := by decide +kernel
theorem sc27 : FnScope d27.slots d27.params (defScope (top 44)) := ⟨rfl, rfl, rfl, by decide +kernel, rfl, by decide +kernel, by decide +kernel⟩
theorem ch27 : chkSs d27.body (ckOf P gls xs cs ocs fl ics xf xfl d27 (defScope (top 44))) (defBody (top 44)) = true := by decide +kernel
theorem sc28 : FnScope d28.slots d28.params (defScope (top 45)) := ⟨rfl, rfl, rfl, by decide +kernel, rfl, by decide +kernel, by decide +kernel⟩
theorem ch28 : chkSs d28.body (ckOf P gls xs cs ocs fl ics xf xfl d28 (defScope (top 45))) (defBody (top 45)) = true := by decide +kernel
theorem sc29 : FnScope d29.slots d29.params (defScope (top 46)) := ⟨rfl, rfl, rfl, by decide +kernel, rfl, by decide +kernel, by decide +kernel⟩
theorem ch29 : chkSs d29.body (ckOf P gls xs cs ocs fl ics xf xfl d29 (defScope (top 46))) (defBody (top 46)) = true := by decide +kernel
theorem sc30 : FnScope d30.slots d30.params (defScope (top 47)) := ⟨rfl, rfl, rfl, by decide +kernel, rfl, by decide +kernel, by decide +kernel⟩
theorem ch30 : chkSs d30.body (ckOf P gls xs cs ocs fl ics xf xfl d30 (defScope (top 47))) (defBody (top 47)) = true := by decide +kernel
theorem sc31 : FnScope d31.slots d31.params (defScope (top 48)) := ⟨rfl, rfl, rfl, by decide +kernel, rfl, by decide +kernel, by decide +kernel⟩
theorem ch31 : chkSs d31.body (ckOf P gls xs cs ocs fl ics xf xfl d31 (defScope (top 48))) (defBody (top 48)) = true := by decide +kernel
theorem sc32 : FnScope d32.slots d32.params (defScope (top 49)) := ⟨rfl, rfl, rfl, by decide +kernel, rfl, by decide +kernel, by decide +kernel⟩
theorem ch32 : chkSs d32.body (ckOf P gls xs cs ocs fl ics xf xfl d32 (defScope (top 49))) (defBody (top 49)) = true := by decide +kernel
theorem sc33 : FnScope d33.slots d33.params (defScope (top 50)) := ⟨rfl, rfl, rfl, by decide +kernel, rfl, by decide +kernel, by decide +kernel⟩
theorem ch33 : chkSs d33.body (ckOf P gls xs cs ocs fl ics xf xfl d33 (defScope (top 50))) (defBody (top 50)) = true := by decide +kernel
def D0 : He.DefD := ⟨("is_plan", none), "is_plan", "is_plan", defArgs (top 7), defBody (top 7), defScope (top 7), [], []⟩
def D1 : He.DefD := ⟨("time_of", none), "time_of", "time_of", defArgs (top 8), defBody (top 8), defScope (top 8), [], []⟩
def D2 : He.DefD := ⟨("runs_meet", none), "runs_meet", "runs_meet", defArgs (top 9), defBody (top 9), defScope (top 9), [], []⟩
def D3 : He.DefD := ⟨("way_run", none), "way_run", "way_run", defArgs (top 10), defBody (top 10), defScope (top 10), [], []⟩
def D4 : He.DefD := ⟨("many_of", none), "many_of", "many_of", defArgs (top 11), defBody (top 11), defScope (top 11), [], []⟩
def D5 : He.DefD := ⟨("heat_of", none), "heat_of", "heat_of", defArgs (top 12), defBody (top 12), defScope (top 12), [], []⟩
def D6 : He.DefD := ⟨("in_use", none), "in_use", "in_use", defArgs (top 13), defBody (top 13), defScope (top 13), [], []⟩
def D7 : He.DefD := ⟨("times_broken", none), "times_broken", "times_broken", defArgs (top 14), defBody (top 14), defScope (top 14), [], []⟩
def D8 : He.DefD := ⟨("links_broken", none), "links_broken", "links_broken", defArgs (top 15), defBody (top 15), defScope (top 15), [], []⟩
def D9 : He.DefD := ⟨("tools_broken", none), "tools_broken", "tools_broken", defArgs (top 16), defBody (top 16), defScope (top 16), [], []⟩
def D10 : He.DefD := ⟨("at_two_heats", none), "at_two_heats", "at_two_heats", defArgs (top 17), defBody (top 17), defScope (top 17), [], []⟩
def D11 : He.DefD := ⟨("heats_broken", none), "heats_broken", "heats_broken", defArgs (top 18), defBody (top 18), defScope (top 18), [], []⟩
def D12 : He.DefD := ⟨("breaches", none), "breaches", "breaches", defArgs (top 19), defBody (top 19), defScope (top 19), [], []⟩
def D13 : He.DefD := ⟨("plan_fits", none), "plan_fits", "plan_fits", defArgs (top 20), defBody (top 20), defScope (top 20), [], []⟩
def D14 : He.DefD := ⟨("pieces_of", none), "pieces_of", "pieces_of", defArgs (top 22), defBody (top 22), defScope (top 22), [], []⟩
def D15 : He.DefD := ⟨("roster", none), "roster", "roster", defArgs (top 23), defBody (top 23), defScope (top 23), [], []⟩
def D16 : He.DefD := ⟨("kept_tools", none), "kept_tools", "kept_tools", defArgs (top 32), defBody (top 32), defScope (top 32), [], []⟩
def D17 : He.DefD := ⟨("kept_way", none), "kept_way", "kept_way", defArgs (top 33), defBody (top 33), defScope (top 33), [], []⟩
def D18 : He.DefD := ⟨("kept_tasks", none), "kept_tasks", "kept_tasks", defArgs (top 34), defBody (top 34), defScope (top 34), [], []⟩
def D19 : He.DefD := ⟨("kept_arcs", none), "kept_arcs", "kept_arcs", defArgs (top 35), defBody (top 35), defScope (top 35), [], []⟩
def D20 : He.DefD := ⟨("kept_pairs", none), "kept_pairs", "kept_pairs", defArgs (top 36), defBody (top 36), defScope (top 36), [], []⟩
def D21 : He.DefD := ⟨("Net", some "__init__"), "__init__", "Net.__init__", defArgs (topm 37 0), defBody (topm 37 0), defScope (topm 37 0), [.non, (.int 0)], []⟩
def D22 : He.DefD := ⟨("_law_cell_at", none), "_law_cell_at", "_law_cell_at", defArgs (top 39), defBody (top 39), defScope (top 39), [], []⟩
def D23 : He.DefD := ⟨("_law_whole", none), "_law_whole", "_law_whole", defArgs (top 40), defBody (top 40), defScope (top 40), [], []⟩
def D24 : He.DefD := ⟨("_law_drawn", none), "_law_drawn", "_law_drawn", defArgs (top 41), defBody (top 41), defScope (top 41), [], []⟩
def D25 : He.DefD := ⟨("_law_tools", none), "_law_tools", "_law_tools", defArgs (top 42), defBody (top 42), defScope (top 42), [], []⟩
def D26 : He.DefD := ⟨("_law_uses", none), "_law_uses", "_law_uses", defArgs (top 43), defBody (top 43), defScope (top 43), [], []⟩
def D27 : He.DefD := ⟨("_law_free", none), "_law_free", "_law_free", defArgs (top 44), defBody (top 44), defScope (top 44), [], []⟩
def D28 : He.DefD := ⟨("_law_placed", none), "_law_placed", "_law_placed", defArgs (top 45), defBody (top 45), defScope (top 45), [], []⟩
def D29 : He.DefD := ⟨("_law_behind_one_another", none), "_law_behind_one_another", "_law_behind_one_another", defArgs (top 46), defBody (top 46), defScope (top 46), [], []⟩
def D30 : He.DefD := ⟨("_law_dealt", none), "_law_dealt", "_law_dealt", defArgs (top 47), defBody (top 47), defScope (top 47), [], []⟩
def D31 : He.DefD := ⟨("_law_told", none), "_law_told", "_law_told", defArgs (top 48), defBody (top 48), defScope (top 48), [], []⟩
def D32 : He.DefD := ⟨("_law_refused", none), "_law_refused", "_law_refused", defArgs (top 49), defBody (top 49), defScope (top 49), [], []⟩
def D33 : He.DefD := ⟨("law", none), "law", "law", defArgs (top 50), defBody (top 50), defScope (top 50), [], []⟩
def fn : List He.DefD := [D0, D1, D2, D3, D4, D5, D6, D7, D8, D9, D10, D11, D12, D13, D14, D15, D16, D17, D18, D19, D20, D21, D22, D23, D24, D25, D26, D27, D28, D29, D30, D31, D32, D33]
def fa : List He.Fa := [.glo "is_plan", .glo "time_of", .glo "runs_meet", .glo "way_run", .glo "many_of", .glo "heat_of", .glo "in_use", .glo "times_broken", .glo "links_broken", .glo "tools_broken", .glo "at_two_heats", .glo "heats_broken", .glo "breaches", .glo "plan_fits", .glo "pieces_of", .glo "roster", .glo "kept_tools", .glo "kept_way", .glo "kept_tasks", .glo "kept_arcs", .glo "kept_pairs", .glo "_law_cell_at", .glo "_law_whole", .glo "_law_drawn", .glo "_law_tools", .glo "_law_uses", .glo "_law_free", .glo "_law_placed", .glo "_law_behind_one_another", .glo "_law_dealt", .glo "_law_told", .glo "_law_refused", .glo "law", .free "len", .free "abs", .free "str", .free "max", .free "min", .free "sum", .free "all", .free "any", .free "int", .free "list", .free "divmod", .free "isinstance", .free "range", .free "reversed", .free "enumerate", .free "zip", .free "bool", .free "tuple", .free "dict", .free "set", .free "sorted", .int "TOOLS" 12, .int "NUMBER" 8, .int "TASKS" 24, .int "ARCS" 600, .int "PAIRS" 300, .int "MOMENTS" 8, .int "GREAT" 1000000000, .exc "NoPlan", .exc "NoNet", .glo "NoPlan", .glo "NoNet"]
def fp : List (Str × Option Str) := [(("is_plan", none) : Str × Option Str), (("time_of", none) : Str × Option Str), (("runs_meet", none) : Str × Option Str), (("way_run", none) : Str × Option Str), (("many_of", none) : Str × Option Str), (("heat_of", none) : Str × Option Str), (("in_use", none) : Str × Option Str), (("times_broken", none) : Str × Option Str), (("links_broken", none) : Str × Option Str), (("tools_broken", none) : Str × Option Str), (("at_two_heats", none) : Str × Option Str), (("heats_broken", none) : Str × Option Str), (("breaches", none) : Str × Option Str), (("plan_fits", none) : Str × Option Str), (("pieces_of", none) : Str × Option Str), (("roster", none) : Str × Option Str), (("kept_tools", none) : Str × Option Str), (("kept_way", none) : Str × Option Str), (("kept_tasks", none) : Str × Option Str), (("kept_arcs", none) : Str × Option Str), (("kept_pairs", none) : Str × Option Str), (("Net", some "__init__") : Str × Option Str), (("_law_cell_at", none) : Str × Option Str), (("_law_whole", none) : Str × Option Str), (("_law_drawn", none) : Str × Option Str), (("_law_tools", none) : Str × Option Str), (("_law_uses", none) : Str × Option Str), (("_law_free", none) : Str × Option Str), (("_law_placed", none) : Str × Option Str), (("_law_behind_one_another", none) : Str × Option Str), (("_law_dealt", none) : Str × Option Str), (("_law_told", none) : Str × Option Str), (("_law_refused", none) : Str × Option Str), (("law", none) : Str × Option Str)]
def exB (K : PySem.W.Frag) : Bool := (csB xfl xs cd K && obB ocs fl fp K && icB ocs ics K) && true
abbrev R : PySem.W.OpenRow := PySem.W.OpenLaw.row PySem.Challenge.rw_stovework_k58_roster_dealt
abbrev hk : PySem.W.Hook := hookY 5 fa fn exB
def ob (s : PySem.W.SharedT) : He.AlX := obsY 5 fa fn exB (HandSHeadRun.getT s)
theorem ob_eq (s : PySem.W.SharedT) : ob s = hk.obs s.abs := obsY_eq (HandSHeadRun.getT_eq s)
def loose : List Str := (["StoveError", "NoNet", "NoPlan", "EmptyHeap", "TooFew", "is_plan", "time_of", "runs_meet", "way_run", "many_of", "heat_of", "in_use"] : List Str) ++ (["times_broken", "links_broken", "tools_broken", "at_two_heats", "heats_broken", "breaches", "plan_fits", "pieces_of", "roster", "TOOLS", "NUMBER", "TASKS"] : List Str) ++ (["ARCS", "PAIRS", "MOMENTS", "GREAT", "kept_tools", "kept_way", "kept_tasks", "kept_arcs", "kept_pairs", "Net", "_law_cell_at", "_law_whole"] : List Str) ++ (["_law_drawn", "_law_tools", "_law_uses", "_law_free", "_law_placed", "_law_behind_one_another", "_law_dealt", "_law_told", "_law_refused"] : List Str)
theorem run (w : World) : HandSHeadRun.RunEq R (PySem.W.view R.prog [50]) hk ob 9000 loose w := by
  intro os
  kernel_rfl
theorem wd_int (a : Int) : (WD.w a : W) = .int a := rfl
theorem wd_str (a : Str) : (WD.w a : W) = .str a := rfl
theorem wd_lst {α : Type} [DecidableEq α] [Datum α] [WD α] (a : List α) : (WD.w a : W) = .lv (a.map WD.w) := rfl
theorem maxS_3 {a b c : Int} {g : G} {q : VK3} : maxS [.int a, .int b, .int c] g q = q (.int (mx2 (mx2 a b) c)) g := rfl
local macro_rules | `(tactic| walk_at "S") => `(tactic| (simp only [e2, e1, eL, eM, aNil, aCons, eIf, eTup, eLst, eSl, eC, eDic, if_ff, if_tt, bT, boS, coS, prS, mtS, mtT, addS_ii, addS_ss, addS_tt, addS_rr, addS_lr, addS_rl, addS_ll, subS_ii, mulS_l, mulS_r, fdivS_k, modS_k, powS_10, powS_2, negS_i, eqS_ii, eqS_ss, eqS_bb, ltS_ii, leS_ii, gtS_ii, geS_ii, ltS_ss, leS_ss, isS_n, isS_i, isS_s, isS_b, isS_t, isS_c, isS_r, isS_e, isS_l, isS_bb, isS_non_opt, wipe3, Option.isNone_none, Option.isNone_some, optW, lenS_str, lenS_tup, lenS_scr, lenS_lv, lenG, absS, strS, listS_scr, listS_tup, listS_lv, maxS, minS, max2S, min2S, i2F, i1F, eVar_0, eVar_s, ex_int, ex_bl, ex_str, Ends3.xk, enN, suD, unN, List.isEmpty_nil, List.isEmpty_cons, eIsx_0, eIsx_0x, eIsx_s, eIsxs_0, eIsxs_0x, eIsxs_s, anyR_nil, anyR_cons, eXat_0, eXat_s, suR_nil, suR_cons, ex_su, DDh, ex_some, List.getElem?_cons_zero, List.getElem?_cons_succ, seqAt_tup, seqAt_scr, seqAt_lv, seqAt_ref, walkS_ref, walkS_tup, walkS_scr, walkS_lv, walkL_ref, walkL_scr, walkL_lv, asg, setAll, xor_f, xor_t, true_and, and_true, if_t, if_f, isiS_int, isiS_bl, isiS_str, isiS_non, isiS_tup, isiS_scr, isiS_lv, isi_ii, isi_ib, isi_bb, isi_bi, isi_tt, isi_ll, isi_ss, isi_dd, isi_si, isi_ni, isi_ti, isi_li, isi_di, isi_lt, isi_it, isi_nt, isi_st, isi_bt, Bool.not_true, Bool.not_false, decide_eq_true_eq, Bool.not_eq_true', decide_eq_false_iff_not, if_true, if_false, not_true_eq_false, not_false_eq_true, decide_true, decide_false, Bool.true_eq_false, Bool.false_eq_true, abs_ite, DD, ixT0, ixT1, ixT2, ixT3, ixT4, ixG, ln0, ln1, ln2, ln3, ln4, ln5, ln6, ln7, ln8, slS, lst_same, sv, ev, evs, evi, evc, evo, evf, evAnd, evOr, List.set_cons_zero, List.set_cons_succ, frzS_int, frzS_bl, frzS_str, frzS_non, frzS_tup, frzS_lv, frzS_scr, frzS_gup, frzI_0, frzI_s, rtS_same, exS_same, fmtS, Int.reduceEq, Int.reduceLT, Int.reduceLE, Int.reduceNe, Int.reduceToNat, Int.reducePow, Int.reduceMul, Int.reduceSub, Int.reduceAdd, Int.reduceNeg, Nat.reduceLT, ne_eq, ite_true, ite_false, wd_int, wd_str, wd_lst, maxS_3, glv_0, glv_1, glv_2, glv_3, glv_4, glv_5, glv_6]))
local macro_rules | `(tactic| walk_at "ss") => `(tactic| ((try walk_at "S"); repeat (with_reducible refine newF ?_; try walk_at "S")))
local macro_rules | `(tactic| walk_at "st") => `(tactic| (refine st_of rfl ?_; walk_at "S"; repeat (with_reducible refine newF ?_; try walk_at "S")))
local macro_rules | `(tactic| walk_at "nl") => `(tactic| (refine nl_of ?_; (try dsimp only)))
local macro_rules | `(tactic| walk_at "go") => `(tactic| (repeat (first | (refine nl_of ?_; (try dsimp only); (try walk_at "S")) | walk_at "st")))
abbrev cN : Nat := 0
abbrev cH : Nat := 0
abbrev exH : Nat := 0
theorem c_cell {n : Nat} {ns : List Int} {k : Nat} {g : G} {x : XK3} {q : VK3} (h : q (.int (ns.getD k 0)) g) : callF P gl (n + 1) 22 [.scr (ns.map W.int), .int (k : Int)] g x q := by
  refine u22 ?_
  walk_at "st"
  by_cases hk : k < ns.length
  · rw [if_pos (by simpa using hk)]
    walk_at "st"
    refine ⟨.int (ns.getD k 0), ?_, rt_keep h⟩
    rw [atI_n]
    simp [hk]
  · rw [if_neg (by simpa using hk)]
    walk_at "nl"
    walk_at "st"
    have e : ns.getD k 0 = 0 := by simp at hk; simp [List.getD, hk]
    rw [e] at h
    exact h
theorem c_whole {n : Nat} {i : Int} {g : G} {x : XK3} {q : VK3} (h : q (.bl true) g) : callF P gl (n + 1) 23 [.int i] g x q := by
  refine u23 ?_
  walk_at "st"
  walk_at "go"
  exact h
theorem sl_le {n : Nat} (h : n ≤ 100000) : n ≤ sizeLine := Nat.le_of_lt (small_line h)
open PySem.NumText TL PyProof.Rows
abbrev tls (x : Str) : List Nat := x.cps.toList
theorem ix_str {z : Str} {k c : Nat} {g : G} {q : VK3} (hz : z.length ≤ 100000) (h : (tls z)[k]? = some c) (hq : q (.str ⟨#[c]⟩) g) : ixS (.str z) (.int (k : Int)) g q :=
  ⟨sl_le hz, c, by rw [atI_n]; exact h, hq⟩
def Digs (w : Str) : Prop := ∀ c ∈ tls w, 48 ≤ c ∧ c ≤ 57
instance {w : Str} : Decidable (Digs w) := by unfold Digs; infer_instance
abbrev Use := PySem.W.T3 Str Int Int
abbrev Way := PySem.W.T3 Int Int (List Use)
abbrev ArcT := PySem.W.T3 Int Int Int
def toolK (T : List (Str × Int)) : List (Key × W) := T.map fun p => (Sum.inr p.1, W.int p.2)
theorem items_dic {g : G} {a : Addr} {lk : Bool} {kvs : List (Key × W)} {r : List W → (G → Prop) → G → Prop} (h : g a = some (.dic lk kvs)) : itemsS (.ref a) g r = r (kvs.map fun p => .tup [kW p.1, p.2]) (fun g' => g' a = some (.dic true kvs)) (gup g a (.dic true kvs)) := by simp [itemsS, h]
theorem len_dic {g : G} {a : Addr} {lk : Bool} {kvs : List (Key × W)} {q : VK3} (h : g a = some (.dic lk kvs)) : lenS [.ref a] g q = q (.int (kvs.length : Nat)) g := by simp [lenS, h]
theorem dict_dic {g : G} {a : Addr} {lk : Bool} {kvs : List (Key × W)} {q : VK3} (h : g a = some (.dic lk kvs)) (hq : ∀ p, g p = none → q (.ref p) (gup g p (.dic false kvs))) : dictS [.ref a] g q := by simp only [dictS, h]; exact hq
theorem in_dic {g : G} {a : Addr} {lk : Bool} {kvs : List (Key × W)} {k : Str} {neg : Bool} {q : VK3} (h : g a = some (.dic lk kvs)) : inS neg (.str k) (.ref a) g q = q (.bl (xor neg (dGet kvs (.inr k)).isSome)) g := by simp [inS, h, dicAt, toKey]
theorem ix_dic {g : G} {a : Addr} {lk : Bool} {kvs : List (Key × W)} {k : Str} {q : VK3} (h : g a = some (.dic lk kvs)) : ixS (.ref a) (.str k) g q = ∃ v, dGet kvs (.inr k) = some v ∧ q v g := by simp [ixS, h, dicAt, toKey]
theorem un_back {g : G} {a : Addr} {kvs : List (Key × W)} {P : G → Prop} (h : g a = some (.dic false kvs)) (hp : P g) : un g P (gup g a (.dic true kvs)) := by
  refine .inr ⟨a, fun z => ?_, .inl ⟨kvs, gup_same⟩, ?_⟩
  · rcases z with ⟨_, z⟩ | ⟨_, z⟩ <;> (rw [h] at z; cases z)
  · rw [unl_dic gup_same, gup_gup, gup_eta h]; exact hp
theorem inS_m {α : Type} [DecidableEq α] [Datum α] [WD α] {g : G} {a : Addr} {xs : List α} {x : α} {neg : Bool} {q : VK3} (h : g a = some (.lst (xs.map WD.w))) (hd : Datum.depth α ≤ 64) (hq : q (.bl (xor neg (decide (x ∈ xs)))) g) : inS neg (WD.w x) (.ref a) g q := by
  have key : ∀ u : W, DW g u (Datum.toD x) → inS neg u (.ref a) g q := fun u hu => by
    have e : inS neg u (.ref a) g q = ((flatW u = true ∧ (xs.map WD.w).all flatW = true ∧ q (.bl (xor neg ((xs.map WD.w).any fun z => eqW z u))) g) ∨
      ∃ d ds, DW g u d ∧ DW g (.ref a) (.list ds) ∧ d.plain = true ∧ PyData.plainAll ds = true ∧ d.depth ≤ 64 ∧ q (.bl (xor neg (ds.any fun z => PyData.eqv z d))) g) := by cases u <;> simp [inS, h]
    rw [e]
    exact .inr ⟨Datum.toD x, xs.map Datum.toD, hu, hw_lstM h fun x _ => WD.hw g x, Datum.plain x, plainAll_map xs, Nat.le_trans (Datum.depth_le x) hd, by rw [any_datum]; exact hq⟩
  exact key _ (WD.hw g x)
theorem c_ktools {n : Nat} {td : Addr} {T : List (Str × Int)} (hl : T.length ≤ 12) (hb : ∀ p ∈ T, 1 ≤ p.2 ∧ p.2 ≤ 8) {g : G} {x : XK3} {q : VK3} (hg : g td = some (.dic false (toolK T)))
    (hq : ∀ p, g p = none → q (.ref p) (gup g p (.dic false (toolK T)))) : callF P gl (n + 1) 16 [.ref td] g x q := by
  refine u16 ?_
  refine st_of rfl ?_
  walk_at "ss"
  rw [len_dic hg]
  walk_at "ss"
  rw [if_neg (by simp [toolK]; omega)]
  walk_at "nl"
  refine st_of rfl ?_
  walk_at "ss"
  rw [items_dic hg]
  rw [show (toolK T).map (fun p => W.tup [kW p.1, p.2]) = T.map (fun p => W.tup [.str p.1, .int p.2]) from by simp [toolK, kW]]
  refine for_map (fun pre post s g' => ∃ o1 o2, s = [some (.ref td), o1, o2] ∧ g' = gup g td (.dic true (toolK T))) ⟨none, none, rfl, rfl⟩ ?_ ?_
  · rintro s g' ⟨o1, o2, rfl, rfl⟩
    refine ⟨gup_same, un_back hg ?_⟩
    refine st_of rfl ?_
    walk_at "ss"
    refine dict_dic hg fun p hp => ?_
    exact rt_keep (hq p hp)
  · rintro ⟨a, b⟩ pre post s g' hx ⟨o1, o2, rfl, rfl⟩ K hK
    have hb := hb (a, b) (by rw [hx]; simp)
    simp only at hb
    refine ⟨gup_same, ?_⟩
    refine ⟨rfl, ?_⟩
    refine st_of rfl ?_
    walk_at "ss"
    rw [if_pos hb.1, if_neg (fun z => z hb.2)]
    walk_at "nl"
    exact hK _ _ ⟨_, _, rfl, rfl⟩
structure UseOk (T : List (Str × Int)) (u : Use) : Prop where
  ex : ∃ c : Int, dGet (toolK T) (.inr u.a) = some (.int c) ∧ 1 ≤ u.b ∧ u.b ≤ c ∧ 0 ≤ u.c ∧ u.c ≤ 1000000000
structure WayOk (T : List (Str × Int)) (w : Way) : Prop where
  l : 1 ≤ w.a ∧ w.a ≤ w.b ∧ w.b ≤ 1000000000
  nd : (w.c.map (·.a)).Nodup
  us : ∀ u ∈ w.c, UseOk T u
  n : w.c.length ≤ 1000
theorem c_kway {n : Nat} {td : Addr} {T : List (Str × Int)} {w : Way} (hw : WayOk T w) {g : G} {x : XK3} {q : VK3} (hg : g td = some (.dic false (toolK T))) (hq : q (WD.w w) g) : callF P gl (n + 1) 17 [.ref td, WD.w w] g x q := by
  obtain ⟨a, b, us⟩ := w
  obtain ⟨⟨h1, h2, h3⟩, nd, hu, hn⟩ := hw
  simp only at h1 h2 h3 nd hu hn
  show callF P gl (n + 1) 17 [.ref td, .tup [.int a, .int b, .lv (us.map WD.w)]] g x q
  refine u17 ?_
  refine st_of rfl ?_
  walk_at "ss"
  refine ⟨rfl, ?_⟩
  refine st_of rfl ?_
  walk_at "ss"
  rw [if_pos h1, if_pos h2, if_neg (fun z => z h3)]
  walk_at "nl"
  refine st_of rfl ?_
  walk_at "ss"
  intro p hp
  have ne : td ≠ p := ne_free hg hp
  refine st_of rfl ?_
  walk_at "ss"
  refine for_map (fun pre post s g' => ∃ o6 o7 o8, s = [some (.ref td), some (.tup [.int a, .int b, .lv (us.map WD.w)]), some (.int a), some (.int b), some (.lv (us.map WD.w)), some (.ref p), o6, o7, o8] ∧ g' = gup g p (.lst ((pre.map (fun u : Use => u.a)).map WD.w))) ⟨none, none, none, rfl, rfl⟩ ?_ ?_
  · rintro s g' ⟨o6, o7, o8, rfl, rfl⟩
    refine ⟨trivial, ?_⟩
    walk_at "ss"
    rw [gdel_gup hp]
    refine st_of rfl ?_
    walk_at "ss"
    first | exact rt_keep hq | exact hq
  · rintro ⟨u, m, ht⟩ pre post s g' hx ⟨o6, o7, o8, rfl, rfl⟩ K hK
    obtain ⟨c, k1, k2, k3, k4, k5⟩ := (hu ⟨u, m, ht⟩ (by rw [hx]; simp)).ex
    simp only at k1 k2 k3 k4 k5
    have hg2 : gup g p (.lst ((pre.map (fun u : Use => u.a)).map WD.w)) td = some (.dic false (toolK T)) := by rw [gup_ne ne]; exact hg
    have hs : gup g p (.lst ((pre.map (fun u : Use => u.a)).map WD.w)) p = some (.lst ((pre.map (fun u : Use => u.a)).map WD.w)) := gup_same
    refine ⟨trivial, ?_⟩
    refine ⟨rfl, ?_⟩
    refine st_of rfl ?_
    walk_at "ss"
    rw [in_dic hg2, k1]
    walk_at "ss"
    rw [if_neg (by simp)]
    have hno : u ∉ pre.map (fun u : Use => u.a) := by
      rw [hx] at nd
      simp only [List.map_append, List.map_cons, List.nodup_append] at nd
      exact fun z => nd.2.2 _ z _ (List.mem_cons_self) rfl
    refine inS_m (α := Str) (x := u) hs (by decide) ?_
    rw [decide_eq_false hno]
    walk_at "ss"
    walk_at "nl"
    refine st_of rfl ?_
    walk_at "ss"
    rw [if_pos k2]
    rw [ix_dic hg2]
    refine ⟨_, k1, ?_⟩
    walk_at "ss"
    rw [if_neg (fun z => z k3), if_pos k4, if_neg (fun z => z k5)]
    walk_at "nl"
    refine st_of rfl ?_
    walk_at "ss"
    refine ⟨isLst_of hs, app_m (f := WD.w) (x := u) hs (by simp [hx] at hn ⊢; omega) rfl ?_⟩
    rw [gup_gup]
    walk_at "nl"
    exact hK _ _ ⟨_, _, _, rfl, by simp⟩
theorem c_ktasks {n : Nat} {td : Addr} {T : List (Str × Int)} {tasks : List (List Way)} (ht : tasks.length ≤ 24) (hw : ∀ ws ∈ tasks, (ws.length = 1 ∨ ws.length = 2) ∧ ∀ w ∈ ws, WayOk T w) {g : G} {x : XK3} {q : VK3} (hg : g td = some (.dic false (toolK T))) (hq : q (WD.w tasks) g) : callF P gl (n + 2) 18 [.ref td, WD.w tasks] g x q := by
  refine u18 ?_
  show svs _ _ _ _ [some (.ref td), some (.lv (tasks.map WD.w)), none, none, none] g
  refine st_of rfl ?_
  walk_at "ss"
  rw [if_neg (by simp; omega)]
  walk_at "nl"
  refine st_of rfl ?_
  walk_at "ss"
  intro p hp
  have ne : td ≠ p := ne_free hg hp
  refine st_of rfl ?_
  walk_at "ss"
  refine for_map (fun pre post s g' => ∃ o3 o4, s = [some (.ref td), some (.lv (tasks.map WD.w)), some (.ref p), o3, o4] ∧ g' = gup g p (.lst (pre.map WD.w))) ⟨none, none, rfl, rfl⟩ ?_ ?_
  · rintro s g' ⟨o3, o4, rfl, rfl⟩
    refine ⟨trivial, ?_⟩
    walk_at "ss"
    rw [gdel_gup hp]
    refine st_of rfl ?_
    walk_at "ss"
    first | exact rt_keep hq | exact hq
  · rintro ws pre post s g' hx ⟨o3, o4, rfl, rfl⟩ K hK
    obtain ⟨h1, h2⟩ := hw ws (by rw [hx]; simp)
    have hg2 : gup g p (.lst (pre.map WD.w)) td = some (.dic false (toolK T)) := by rw [gup_ne ne]; exact hg
    refine ⟨trivial, ?_⟩
    show svs _ _ _ _ [some (.ref td), some (.lv (tasks.map WD.w)), some (.ref p), some (.lv (ws.map WD.w)), o4] _
    refine st_of rfl ?_
    walk_at "ss"
    have fin : ∀ D, D.nx = K → svs (callF P gl (n + 1)) gl b18_6 D [some (.ref td), some (.lv (tasks.map WD.w)), some (.ref p), some (.lv (ws.map WD.w)), o4] (gup g p (.lst (pre.map WD.w))) := fun D hD => by
      refine st_of rfl ?_
      walk_at "ss"
      refine ⟨isLst_of gup_same, ?_⟩
      have hpl : pre.length ≤ tasks.length := by rw [hx]; simp
      refine lc_all (u := WD.w) (e := fun w : Way => w) ws (fun w hw k h => ?_) (by omega) (newF ?_)
      · walk_at "ss"
        exact c_kway (h2 w hw) hg2 h
      · refine app_m (f := WD.w) (x := ws) gup_same (by omega) (by simp [WD.w]) ?_
        rw [gup_gup]
        walk_at "nl"
        rw [hD]
        exact hK _ _ ⟨_, _, rfl, by simp⟩
    rcases h1 with h1 | h1
    · rw [if_neg (by simp [h1])]
      walk_at "nl"
      exact fin _ rfl
    · rw [if_pos (by simp [h1]), if_neg (by simp [h1])]
      walk_at "nl"
      exact fin _ rfl
theorem c_karcs {n : Nat} {pts : Int} {A : List ArcT} (hl : A.length ≤ 600) (ha : ∀ e ∈ A, (0 ≤ e.a ∧ e.a < pts) ∧ (0 ≤ e.b ∧ e.b < pts) ∧ -1000000000 ≤ e.c ∧ e.c ≤ 1000000000) {g : G} {x : XK3} {q : VK3} (hq : q (WD.w A) g) : callF P gl (n + 1) 19 [.int pts, WD.w A] g x q := by
  refine u19 ?_
  show svs _ _ _ _ [some (.int pts), some (.lv (A.map WD.w)), none, none, none] g
  refine st_of rfl ?_
  walk_at "ss"
  rw [if_neg (by simp; omega)]
  walk_at "nl"
  refine st_of rfl ?_
  walk_at "ss"
  refine for_map (fun pre post s g' => ∃ o2 o3 o4, s = [some (.int pts), some (.lv (A.map WD.w)), o2, o3, o4] ∧ g' = g) ⟨none, none, none, rfl, rfl⟩ ?_ ?_
  · rintro s g' ⟨o2, o3, o4, rfl, rfl⟩
    refine ⟨trivial, ?_⟩
    refine st_of rfl ?_
    walk_at "ss"
    first | exact rt_keep hq | exact hq
  · rintro ⟨a, b, c⟩ pre post s g' hx ⟨o2, o3, o4, rfl, rfl⟩ K hK
    obtain ⟨h1, h2, h3⟩ := ha ⟨a, b, c⟩ (by rw [hx]; simp)
    simp only at h1 h2 h3
    refine ⟨trivial, ?_⟩
    refine ⟨rfl, ?_⟩
    refine st_of rfl ?_
    walk_at "ss"
    rw [if_pos h1.1, if_neg (fun z => z h1.2), if_pos h2.1, if_neg (fun z => z h2.2)]
    walk_at "nl"
    refine st_of rfl ?_
    walk_at "ss"
    rw [if_pos h3.1, if_neg (fun z => z h3.2)]
    walk_at "nl"
    exact hK _ _ ⟨_, _, _, rfl, rfl⟩
def netF (tp : Addr) (tasks : List (List Way)) (A : List ArcT) (prs : List (Int × Int)) (m : Int) : List (Str × W) := [("tools", .ref tp), ("tasks", WD.w tasks), ("arcs", WD.w A), ("apart", WD.w prs), ("moments", .int m)]
abbrev Run := PySem.W.T3 Int Int Int
structure Fit (tasks : List (List Way)) (runs : List Run) : Prop where
  len : runs.length = tasks.length
  sm : runs.length ≤ 1000
  num : ∀ (i : Nat), i < runs.length → ∃ r ws w, runs[i]? = some r ∧ tasks[i]? = some ws ∧ ∃ k : Nat, r.c = k ∧ k < ws.length ∧ ws[k]? = some w
def spots (runs : List Run) (times : List Int) : List Int := (runs.flatMap fun r => [r.a, r.b]) ++ times
abbrev planW (runs : List Run) (times : List Int) : W := .tup [.lv (runs.map WD.w), .lv (times.map WD.w)]
def rn (runs : List Run) (i : Nat) : Run := (runs[i]?).getD ⟨0, 0, 0⟩
def wy (tasks : List (List Way)) (runs : List Run) (i : Nat) : Way := (((tasks[i]?).getD [])[(rn runs i).c.toNat]?).getD ⟨0, 0, []⟩
def badT (tasks : List (List Way)) (runs : List Run) (i : Nat) : Bool := decide ((rn runs i).a < 0 ∨ ¬ ((wy tasks runs i).a ≤ (rn runs i).b - (rn runs i).a ∧ (rn runs i).b - (rn runs i).a ≤ (wy tasks runs i).b))
def badM (times : List Int) (k : Nat) : Bool := decide (times.getD k 0 < 0)
def an (A : List ArcT) (k : Nat) : ArcT := (A[k]?).getD ⟨0, 0, 0⟩
def badA (sp : List Int) (A : List ArcT) (k : Nat) : Bool := decide (sp.getD (an A k).b.toNat 0 < sp.getD (an A k).a.toNat 0 + (an A k).c)
def pk {α : Type} (k : Nat) (c : Nat → Bool) (e : Nat → α) : List α := ((List.range k).filter c).map e
theorem pk_succ {α : Type} {k : Nat} {c : Nat → Bool} {e : Nat → α} : pk (k + 1) c e = if c k = true then pk k c e ++ [e k] else pk k c e := by
  unfold pk
  rw [List.range_succ, List.filter_append, List.map_append]
  by_cases h : c k = true
  · rw [if_pos h]; simp [h]
  · rw [if_neg h]; simp [h]
theorem pk_len {α : Type} {k : Nat} {c : Nat → Bool} {e : Nat → α} : (pk k c e).length ≤ k := by
  unfold pk
  rw [List.length_map]
  exact Nat.le_trans (List.length_filter_le _ _) (by simp)
theorem pk_zero {α : Type} {c : Nat → Bool} {e : Nat → α} : pk 0 c e = [] := rfl
def tB (tasks : List (List Way)) (runs : List Run) : List (Str × Int) := pk runs.length (badT tasks runs) fun i => ("turns", (i : Int))
def mB (times : List Int) : List (Str × Int) := pk times.length (badM times) fun i => ("moment", (i : Int))
def aB (sp : List Int) (A : List ArcT) : List (Str × Int) := pk A.length (badA sp A) fun i => ("arc", (i : Int))
theorem spots_cons {r : Run} {runs : List Run} {times : List Int} : spots (r :: runs) times = r.a :: r.b :: spots runs times := rfl
theorem spots_len {times : List Int} : ∀ {runs : List Run}, (spots runs times).length = 2 * runs.length + times.length
  | [] => by simp [spots]
  | r :: runs => by rw [spots_cons]; simp only [List.length_cons, spots_len (runs := runs)]; omega
theorem spots_run {times : List Int} : ∀ {runs : List Run} {k : Nat} {r : Run}, runs[k]? = some r → (spots runs times)[2 * k]? = some r.a ∧ (spots runs times)[2 * k + 1]? = some r.b
  | [], k, r, h => by simp at h
  | a :: runs, 0, r, h => by simp at h; subst h; exact ⟨rfl, rfl⟩
  | a :: runs, k + 1, r, h => by
    rw [spots_cons]
    exact spots_run (runs := runs) (k := k) (by simpa using h)
theorem spots_time {times : List Int} : ∀ {runs : List Run} {k : Nat}, (spots runs times)[2 * runs.length + k]? = times[k]?
  | [], k => by simp [spots]
  | a :: runs, k => by
    rw [spots_cons, show 2 * (a :: runs).length + k = (2 * runs.length + k) + 1 + 1 by simp; omega]
    exact spots_time (runs := runs)
section
variable {tasks : List (List Way)} {runs : List Run} {times : List Int} {A : List ArcT} {prs : List (Int × Int)} {m : Int} {h tp : Addr} {g : G} {x : XK3} {q : VK3} {n : Nat}
theorem ix_w {α : Type} [DecidableEq α] [Datum α] [WD α] {xs : List α} {k : Nat} {y : α} (e : xs[k]? = some y) (hq : q (WD.w y) g) : ixS (.lv (xs.map WD.w)) (.int (k : Int)) g q := ixV_m e hq
theorem c_isplan (hF : Fit tasks runs) (ht : (times.length : Int) = m) (hn : g h = some (.ins cN (netF tp tasks A prs m))) (hq : q (.bl true) g) : callF P gl (n + 1) 0 [.ref h, planW runs times] g x q := by
  refine u0 ?_
  show svs _ _ _ _ [some (.ref h), some (.tup [.lv (runs.map WD.w), .lv (times.map WD.w)]), none, none, none] g
  refine st_of rfl ?_
  walk_at "ss"
  refine ⟨rfl, ?_⟩
  refine st_of rfl ?_
  walk_at "ss"
  refine attr_of hn rfl ?_
  show lenS [.lv (tasks.map WD.w)] _ _
  walk_at "ss"
  rw [if_neg (by simp [hF.len])]
  refine attr_of hn rfl ?_
  walk_at "ss"
  rw [if_neg (by simpa using ht)]
  walk_at "nl"
  refine st_of rfl ?_
  walk_at "ss"
  refine ⟨small_len (by have := hF.sm; simp; omega), ?_⟩
  rw [Int.toNat_natCast]
  refine for_rng (fun k s g' => ∃ o, s = [some (.ref h), some (planW runs times), some (.lv (runs.map WD.w)), some (.lv (times.map WD.w)), o] ∧ g' = g) ⟨none, rfl, rfl⟩ ?_ ?_
  · rintro s g' ⟨o, rfl, rfl⟩
    refine ⟨trivial, ?_⟩
    walk_at "st"
    first | exact rt_keep hq | exact hq
  · rintro k s g' hk ⟨o, rfl, rfl⟩ K hK
    rw [List.length_map] at hk
    obtain ⟨r, ws, w, h1, h2, j, h3, h4, h5⟩ := hF.num k hk
    obtain ⟨r1, r2, r3⟩ := r
    simp only at h3
    subst h3
    refine ⟨trivial, ?_⟩
    refine st_of rfl ?_
    walk_at "ss"
    simp only [Int.zero_add]
    refine ix_w h1 ?_
    show ixS (.tup [.int r1, .int r2, .int j]) _ _ _
    refine ⟨.int j, rfl, ?_⟩
    walk_at "ss"
    rw [if_pos (by omega)]
    refine attr_of hn rfl ?_
    refine ix_w h2 ?_
    show lenS [.lv (ws.map WD.w)] _ _
    walk_at "ss"
    rw [if_neg (by simp; omega)]
    walk_at "nl"
    exact hK _ _ ⟨_, rfl, rfl⟩
theorem c_timeof {k : Nat} {v : Int} (e : (spots runs times)[k]? = some v) (hl : runs.length ≤ 10000) (hq : q (.int v) g) : callF P gl (n + 1) 1 [planW runs times, .int (k : Int)] g x q := by
  refine u1 ?_
  show svs _ _ _ _ [some (.tup [.lv (runs.map WD.w), .lv (times.map WD.w)]), some (.int (k : Int)), none, none] g
  refine st_of rfl ?_
  walk_at "ss"
  refine ⟨rfl, ?_⟩
  refine st_of rfl ?_
  walk_at "ss"
  have hk : k < 2 * runs.length + times.length := by rw [← spots_len]; exact (List.getElem?_eq_some_iff.mp e).1
  by_cases c : k < 2 * runs.length
  · rw [if_pos (by simp; omega)]
    refine st_of rfl ?_
    walk_at "ss"
    have e0 : k / 2 < runs.length := by omega
    obtain ⟨s1, s2⟩ := spots_run (times := times) (List.getElem?_eq_getElem e0)
    rw [show (k : Int).fdiv 2 = ((k / 2 : Nat) : Int) by rw [Int.fdiv_eq_ediv_of_nonneg _ (by decide)]; omega]
    refine ix_w (List.getElem?_eq_getElem e0) ?_
    generalize runs[k / 2] = r at *
    obtain ⟨r1, r2, r3⟩ := r
    show ixS (.tup [.int r1, .int r2, .int r3]) _ _ _
    rcases Nat.mod_two_eq_zero_or_one k with z | z
    · rw [show (k : Int).fmod 2 = 0 by rw [Int.fmod_eq_emod_of_nonneg _ (by decide)]; omega]
      refine ⟨.int r1, rfl, ?_⟩
      rw [show 2 * (k / 2) = k by omega, e] at s1
      cases s1
      first | exact rt_keep hq | exact hq
    · rw [show (k : Int).fmod 2 = 1 by rw [Int.fmod_eq_emod_of_nonneg _ (by decide)]; omega]
      refine ⟨.int r2, rfl, ?_⟩
      rw [show 2 * (k / 2) + 1 = k by omega, e] at s2
      cases s2
      first | exact rt_keep hq | exact hq
  · rw [if_neg (by simp; omega)]
    walk_at "nl"
    refine st_of rfl ?_
    walk_at "ss"
    rw [show (k : Int) - 2 * ((runs.map (WD.w : Run → W)).length : Nat) = ((k - 2 * runs.length : Nat) : Int) by simp; omega]
    have e2 : times[k - 2 * runs.length]? = some v := by
      rw [← spots_time (runs := runs), show 2 * runs.length + (k - 2 * runs.length) = k by omega]; exact e
    refine ix_w e2 ?_
    first | exact rt_keep hq | exact hq
theorem wy_at (hF : Fit tasks runs) {i : Nat} (hi : i < runs.length) : ∃ r ws, runs[i]? = some r ∧ tasks[i]? = some ws ∧ rn runs i = r ∧ ∃ k : Nat, r.c = k ∧ k < ws.length ∧ ws[k]? = some (wy tasks runs i) := by
  obtain ⟨r, ws, w, h1, h2, j, h3, h4, h5⟩ := hF.num i hi
  have e : rn runs i = r := by unfold rn; rw [h1]; rfl
  refine ⟨r, ws, h1, h2, e, j, h3, h4, ?_⟩
  unfold wy
  rw [e, h2, h3]
  simp [h5]
theorem c_wayrun (hF : Fit tasks runs) (hn : g h = some (.ins cN (netF tp tasks A prs m))) {i : Nat} (hi : i < runs.length) (hq : q (WD.w (wy tasks runs i)) g) : callF P gl (n + 1) 3 [.ref h, planW runs times, .int (i : Int)] g x q := by
  refine u3 ?_
  show svs _ _ _ _ [some (.ref h), some (.tup [.lv (runs.map WD.w), .lv (times.map WD.w)]), some (.int (i : Int))] g
  obtain ⟨r, ws, h1, h2, h3, j, h4, h5, h6⟩ := wy_at hF hi
  obtain ⟨r1, r2, r3⟩ := r
  simp only at h4
  subst h4
  refine st_of rfl ?_
  walk_at "ss"
  refine attr_of hn rfl ?_
  refine ix_w h2 ?_
  refine ix_w h1 ?_
  show ixS (.tup [.int r1, .int r2, .int j]) _ _ _
  refine ⟨.int j, rfl, ?_⟩
  refine ix_w h6 ?_
  first | exact rt_keep hq | exact hq
end
section
variable {tasks : List (List Way)} {runs : List Run} {times : List Int} {A : List ArcT} {prs : List (Int × Int)} {m : Int} {h tp : Addr} {g : G} {x : XK3} {q : VK3} {n : Nat}
theorem c_tbroken (hF : Fit tasks runs) (ht : (times.length : Int) = m) (hs : times.length ≤ 1000) (hn : g h = some (.ins cN (netF tp tasks A prs m))) (hq : q (WD.w (tB tasks runs ++ mB times)) g) : callF P gl (n + 2) 7 [.ref h, planW runs times] g x q := by
  have hsm := hF.sm
  refine u7 ?_
  show svs _ _ _ _ [some (.ref h), some (.tup [.lv (runs.map WD.w), .lv (times.map WD.w)]), none, none, none, none, none, none, none] g
  refine st_of rfl ?_
  walk_at "ss"
  intro p hp
  have ne : h ≠ p := ne_free hn hp
  have hn2 : ∀ o, gup g p o h = some (.ins cN (netF tp tasks A prs m)) := fun o => by rw [gup_ne ne]; exact hn
  refine st_of rfl ?_
  walk_at "ss"
  refine ⟨small_len (by simp; omega), ?_⟩
  rw [Int.toNat_natCast, List.length_map]
  refine for_rng (fun k s g' => ∃ o3 o4 o5 o6 o7, s = [some (.ref h), some (planW runs times), some (.ref p), o3, o4, o5, o6, o7, none] ∧ g' = gup g p (.lst ((pk k (badT tasks runs) fun i => (("turns", (i : Int)) : Str × Int)).map WD.w))) ⟨none, none, none, none, none, rfl, rfl⟩ ?_ ?_
  · rintro s g' ⟨o3, o4, o5, o6, o7, rfl, rfl⟩
    refine ⟨trivial, ?_⟩
    refine st_of rfl ?_
    walk_at "ss"
    refine attr_of (hn2 _) rfl ?_
    walk_at "ss"
    rw [← ht]
    refine ⟨small_len (by omega), ?_⟩
    rw [Int.toNat_natCast]
    refine for_rng (fun k s g' => ∃ o8, s = [some (.ref h), some (planW runs times), some (.ref p), o3, o4, o5, o6, o7, o8] ∧ g' = gup g p (.lst ((tB tasks runs ++ pk k (badM times) fun i => (("moment", (i : Int)) : Str × Int)).map WD.w))) ⟨none, rfl, by rw [pk_zero, List.append_nil]; rfl⟩ ?_ ?_
    · rintro s g' ⟨o8, rfl, rfl⟩
      refine ⟨trivial, ?_⟩
      walk_at "ss"
      rw [gdel_gup hp]
      refine st_of rfl ?_
      walk_at "ss"
      first | exact rt_keep hq | exact hq
    · rintro k s g' hk ⟨o8, rfl, rfl⟩ K hK
      refine ⟨trivial, ?_⟩
      refine st_of rfl ?_
      walk_at "ss"
      simp only [Int.zero_add]
      refine ix_w (List.getElem?_eq_getElem hk) ?_
      walk_at "ss"
      have eb : badM times k = decide (times[k] < 0) := by unfold badM; rw [List.getD_eq_getElem?_getD, List.getElem?_eq_getElem hk]; rfl
      by_cases c : times[k] < 0
      · rw [if_pos c]
        refine st_of rfl ?_
        walk_at "ss"
        have hl := pk_len (k := runs.length) (c := badT tasks runs) (e := fun i => (("turns", (i : Int)) : Str × Int))
        have hl2 := pk_len (k := k) (c := badM times) (e := fun i => (("moment", (i : Int)) : Str × Int))
        refine ⟨isLst_of gup_same, app_m (f := WD.w) (x := (("moment", (k : Int)) : Str × Int)) gup_same (by simp [tB]; omega) rfl ?_⟩
        rw [gup_gup]
        walk_at "nl"
        exact hK _ _ ⟨_, rfl, by rw [pk_succ, if_pos (by rw [eb]; simpa using c), List.append_assoc]⟩
      · rw [if_neg c]
        walk_at "nl"
        exact hK _ _ ⟨_, rfl, by rw [pk_succ, if_neg (by rw [eb]; simpa using c)]⟩
  · rintro k s g' hk ⟨o3, o4, o5, o6, o7, rfl, rfl⟩ K hK
    obtain ⟨r, ws, h1, h2, h3, j, h4, h5, h6⟩ := wy_at hF hk
    have eb : badT tasks runs k = decide (r.a < 0 ∨ ¬ ((wy tasks runs k).a ≤ r.b - r.a ∧ r.b - r.a ≤ (wy tasks runs k).b)) := by unfold badT; rw [h3]
    obtain ⟨r1, r2, r3⟩ := r
    refine ⟨trivial, ?_⟩
    refine st_of rfl ?_
    walk_at "ss"
    simp only [Int.zero_add]
    refine ix_w h1 ?_
    refine ⟨rfl, ?_⟩
    refine st_of rfl ?_
    walk_at "ss"
    refine c_wayrun hF (hn2 _) hk ?_
    generalize wy tasks runs k = w at *
    obtain ⟨a, b, us⟩ := w
    simp only at eb
    have hl2 := pk_len (k := k) (c := badT tasks runs) (e := fun i => (("turns", (i : Int)) : Str × Int))
    show svs _ _ _ _ [some (.ref h), some (.tup [.lv (runs.map WD.w), .lv (times.map WD.w)]), some (.ref p), some (.int (k : Int)), some (.int r1), some (.int r2), some (.int r3), some (.tup [.int a, .int b, .lv (us.map WD.w)]), none] _
    have yes : badT tasks runs k = true → ∀ D, (∀ s g, K s g → D.nx s g) → svs (callF P gl (n + 1)) gl b7_5 D [some (.ref h), some (.tup [.lv (runs.map WD.w), .lv (times.map WD.w)]), some (.ref p), some (.int (k : Int)), some (.int r1), some (.int r2), some (.int r3), some (.tup [.int a, .int b, .lv (us.map WD.w)]), none] (gup g p (.lst ((pk k (badT tasks runs) fun i => (("turns", (i : Int)) : Str × Int)).map WD.w))) := fun e D hD => by
      refine st_of rfl ?_
      walk_at "ss"
      refine ⟨isLst_of gup_same, app_m (f := WD.w) (x := (("turns", (k : Int)) : Str × Int)) gup_same (by omega) rfl ?_⟩
      rw [gup_gup]
      walk_at "nl"
      exact hD _ _ (hK _ _ ⟨_, _, _, _, _, rfl, by rw [pk_succ, if_pos e]⟩)
    have no : badT tasks runs k = false → K [some (.ref h), some (.tup [.lv (runs.map WD.w), .lv (times.map WD.w)]), some (.ref p), some (.int (k : Int)), some (.int r1), some (.int r2), some (.int r3), some (.tup [.int a, .int b, .lv (us.map WD.w)]), none] (gup g p (.lst ((pk k (badT tasks runs) fun i => (("turns", (i : Int)) : Str × Int)).map WD.w))) := fun e => 
      hK _ _ ⟨_, _, _, _, _, rfl, by rw [pk_succ, if_neg (by rw [e]; decide)]⟩
    refine st_of rfl ?_
    walk_at "ss"
    by_cases c1 : r1 < 0
    · rw [if_pos c1]
      exact yes (by rw [eb]; simp [c1]) _ fun s g z => z
    · rw [if_neg c1]
      by_cases c2 : a ≤ r2 - r1
      · rw [if_pos c2]
        by_cases c3 : r2 - r1 ≤ b
        · rw [if_neg (fun z => z c3)]
          walk_at "nl"
          walk_at "nl"
          exact no (by rw [eb]; simp [c1, c2, c3])
        · rw [if_pos c3]
          exact yes (by rw [eb]; simp [c3]) _ fun s g z => z
      · rw [if_neg c2]
        exact yes (by rw [eb]; simp [c2]) _ fun s g z => z
end
instance : Datum Key where
  toD | .inl i => .int i | .inr s => .str s
  plain a := by cases a <;> rfl
  eqv a b := by
    cases a <;> cases b <;> simp [PyData.eqv, PySem.W.beq_decide]
  depth := 0
  depth_le a := by cases a <;> exact Nat.le_refl _
instance : WD Key := ⟨kW, fun g x => by cases x with | inl i => exact DW.int i | inr s => exact DW.str s⟩
abbrev BR := PySem.W.Tup Key
def toBR (p : Str × Int) : BR := ⟨[.inr p.1, .inl p.2]⟩
theorem toBR_w (L : List (Str × Int)) : L.map (WD.w (α := Str × Int)) = (L.map toBR).map (WD.w (α := BR)) := by rw [List.map_map]; rfl
theorem wdU (u : Use) : (WD.w u : W) = .tup [.str u.a, .int u.b, .int u.c] := rfl
theorem wdW (w : Way) : (WD.w w : W) = .tup [.int w.a, .int w.b, .lv (w.c.map WD.w)] := rfl
theorem wdR (r : Run) : (WD.w r : W) = .tup [.int r.a, .int r.b, .int r.c] := rfl
def useOf (w : Way) (nm : Str) : Option Use := w.c.find? fun u => decide (u.a = nm)
def manyOf (w : Way) (nm : Str) : Int := ((useOf w nm).map (·.b)).getD 0
def heatOf (w : Way) (nm : Str) : Option Int := (useOf w nm).map (·.c)
def act (r : Run) (t : Int) : Bool := decide (r.a ≤ t) && decide (t < r.b)
def inU (tasks : List (List Way)) (runs : List Run) (nm : Str) (t : Int) : Nat → Int
  | 0 => 0
  | k + 1 => inU tasks runs nm t k + if act (rn runs k) t then manyOf (wy tasks runs k) nm else 0
theorem inU_s {tasks : List (List Way)} {runs : List Run} {nm : Str} {t : Int} {k : Nat} : inU tasks runs nm t (k + 1) = inU tasks runs nm t k + if act (rn runs k) t then manyOf (wy tasks runs k) nm else 0 := rfl
def meetR (a b : Run) : Bool := decide (a.a < b.b) && decide (b.a < a.b)
def twoH (tasks : List (List Way)) (runs : List Run) (nm : Str) (i j : Nat) : Bool := meetR (rn runs i) (rn runs j) && match heatOf (wy tasks runs i) nm, heatOf (wy tasks runs j) nm with
  | some a, some b => decide (a ≠ b)
  | _, _ => false
def numT (T : List (Str × Int)) (nm : Str) : Int := (dGet T nm).getD 0
theorem toolK_get {T : List (Str × Int)} {nm : Str} : dGet (toolK T) (.inr nm) = (dGet T nm).map W.int := by
  induction T with
  | nil => rfl
  | cons a T ih =>
    unfold toolK at ih ⊢
    rw [List.map_cons, dGet_cons, dGet_cons, ih]
    by_cases h : a.1 = nm
    · rw [if_pos h, if_pos (by rw [h])]; rfl
    · rw [if_neg h, if_neg (fun z => h (Sum.inr.inj z))]
def tRow (nm : Str) (t : Int) : BR := ⟨[.inr "tool", .inr nm, .inl t]⟩
def hRow (nm : Str) (i j : Int) : BR := ⟨[.inr "heat", .inr nm, .inl i, .inl j]⟩
def tR1 (tasks : List (List Way)) (runs : List Run) (T : List (Str × Int)) (nm : Str) (S : List Int) : List BR := (S.filter fun t => decide (numT T nm < inU tasks runs nm t runs.length)).map (tRow nm)
def tR (tasks : List (List Way)) (runs : List Run) (T : List (Str × Int)) (S : List Int) (names : List Str) : List BR := names.flatMap fun nm => tR1 tasks runs T nm S
def hR2 (tasks : List (List Way)) (runs : List Run) (nm : Str) (i m : Nat) : List BR := pk m (fun k => twoH tasks runs nm i (i + 1 + k)) fun k => hRow nm (i : Int) ((i + 1 + k : Nat) : Int)
def hR1 (tasks : List (List Way)) (runs : List Run) (nm : Str) (m : Nat) : List BR := (List.range m).flatMap fun i => hR2 tasks runs nm i (runs.length - (i + 1))
def hR (tasks : List (List Way)) (runs : List Run) (names : List Str) : List BR := names.flatMap fun nm => hR1 tasks runs nm runs.length
def pB (runs : List Run) (prs : List (Int × Int)) : List (Str × Int) := pk prs.length (fun k => meetR (rn runs ((prs[k]?).getD (0, 0)).1.toNat) (rn runs ((prs[k]?).getD (0, 0)).2.toNat)) fun k => ("apart", (k : Int))
section
variable {tasks : List (List Way)} {runs : List Run} {times : List Int} {A : List ArcT} {prs : List (Int × Int)} {m : Int} {h tp : Addr} {g : G} {x : XK3} {q : VK3} {n : Nat} {T : List (Str × Int)}
theorem find_pre {nm : Str} {pre post : List Use} {u : Use} (hp : ∀ v ∈ pre, v.a ≠ nm) (hu : u.a = nm) : (pre ++ u :: post).find? (fun v => decide (v.a = nm)) = some u := by
  rw [List.find?_append]
  have : pre.find? (fun v => decide (v.a = nm)) = none := List.find?_eq_none.mpr fun v hv => by simpa using hp v hv
  rw [this]
  simp [hu]
theorem c_manyof {w : Way} {nm : Str} (hq : q (.int (manyOf w nm)) g) : callF P gl (n + 1) 4 [WD.w w, .str nm] g x q := by
  refine u4 ?_
  rw [wdW]
  refine st_of rfl ?_
  walk_at "ss"
  refine for_map (f := WD.w) (fun pre post s g1 => ∃ o2 o3 o4, (∀ v ∈ pre, v.a ≠ nm) ∧ s = [some (.tup [.int w.a, .int w.b, .lv (w.c.map WD.w)]), some (.str nm), o2, o3, o4] ∧ g1 = g) ⟨none, none, none, by simp, rfl, rfl⟩ ?_ ?_
  · rintro s g1 ⟨o2, o3, o4, hp, rfl, rfl⟩
    refine ⟨trivial, ?_⟩
    have e : manyOf w nm = 0 := by
      unfold manyOf useOf
      rw [List.find?_eq_none.mpr fun v hv => by simpa using hp v hv]; rfl
    rw [e] at hq
    refine st_of rfl ?_
    walk_at "ss"
    first | exact rt_keep hq | exact hq
  · rintro u pre post s g1 hx ⟨o2, o3, o4, hp, rfl, rfl⟩ K hK
    refine ⟨trivial, ?_⟩
    rw [wdU]
    refine ⟨rfl, ?_⟩
    show svs _ _ _ _ [some (.tup [.int w.a, .int w.b, .lv (w.c.map WD.w)]), some (.str nm), some (.str u.a), some (.int u.b), some (.int u.c)] _
    refine st_of rfl ?_
    walk_at "ss"
    by_cases c : u.a = nm
    · rw [if_pos c]
      have e : manyOf w nm = u.b := by unfold manyOf useOf; rw [hx, find_pre hp c]; rfl
      rw [e] at hq
      refine st_of rfl ?_
      walk_at "ss"
      first | exact rt_keep hq | exact hq
    · rw [if_neg c]
      walk_at "nl"
      refine hK _ _ ⟨_, _, _, fun v hv => ?_, rfl, rfl⟩
      rcases List.mem_append.mp hv with hv | hv
      · exact hp v hv
      · rw [List.mem_singleton.mp hv]; exact c
theorem c_heatof {w : Way} {nm : Str} (hq : q (optW (heatOf w nm)) g) : callF P gl (n + 1) 5 [WD.w w, .str nm] g x q := by
  refine u5 ?_
  rw [wdW]
  refine st_of rfl ?_
  walk_at "ss"
  refine for_map (f := WD.w) (fun pre post s g1 => ∃ o2 o3 o4, (∀ v ∈ pre, v.a ≠ nm) ∧ s = [some (.tup [.int w.a, .int w.b, .lv (w.c.map WD.w)]), some (.str nm), o2, o3, o4] ∧ g1 = g) ⟨none, none, none, by simp, rfl, rfl⟩ ?_ ?_
  · rintro s g1 ⟨o2, o3, o4, hp, rfl, rfl⟩
    refine ⟨trivial, ?_⟩
    have e : heatOf w nm = none := by
      unfold heatOf useOf
      rw [List.find?_eq_none.mpr fun v hv => by simpa using hp v hv]; rfl
    rw [e] at hq
    refine st_of rfl ?_
    walk_at "ss"
    first | exact rt_keep hq | exact hq
  · rintro u pre post s g1 hx ⟨o2, o3, o4, hp, rfl, rfl⟩ K hK
    refine ⟨trivial, ?_⟩
    rw [wdU]
    refine ⟨rfl, ?_⟩
    show svs _ _ _ _ [some (.tup [.int w.a, .int w.b, .lv (w.c.map WD.w)]), some (.str nm), some (.str u.a), some (.int u.b), some (.int u.c)] _
    refine st_of rfl ?_
    walk_at "ss"
    by_cases c : u.a = nm
    · rw [if_pos c]
      have e : heatOf w nm = some u.c := by unfold heatOf useOf; rw [hx, find_pre hp c]; rfl
      rw [e] at hq
      refine st_of rfl ?_
      walk_at "ss"
      first | exact rt_keep hq | exact hq
    · rw [if_neg c]
      walk_at "nl"
      refine hK _ _ ⟨_, _, _, fun v hv => ?_, rfl, rfl⟩
      rcases List.mem_append.mp hv with hv | hv
      · exact hp v hv
      · rw [List.mem_singleton.mp hv]; exact c
theorem rn_at {i : Nat} (hi : i < runs.length) : runs[i]? = some (rn runs i) := by unfold rn; rw [List.getElem?_eq_getElem hi]; rfl
theorem ixR0 {i : Nat} (hi : i < runs.length) {q : VK3} (hq : q (.tup [.int (rn runs i).a, .int (rn runs i).b, .int (rn runs i).c]) g) : ixS (.lv (runs.map WD.w)) (.int (i : Int)) g q := ixV_m (f := WD.w) (rn_at hi) hq
theorem c_inuse (hF : Fit tasks runs) (hn : g h = some (.ins cN (netF tp tasks A prs m))) {nm : Str} {t : Int} (hq : q (.int (inU tasks runs nm t runs.length)) g) : callF P gl (n + 2) 6 [.ref h, planW runs times, .str nm, .int t] g x q := by
  refine u6 ?_
  refine st_of rfl ?_
  walk_at "ss"
  refine st_of rfl ?_
  walk_at "ss"
  refine ⟨small_len (by have := hF.sm; simp; omega), ?_⟩
  rw [Int.toNat_natCast, List.length_map]
  refine for_rng (fun k s g1 => ∃ o5, s = [some (.ref h), some (planW runs times), some (.str nm), some (.int t), some (.int (inU tasks runs nm t k)), o5] ∧ g1 = g) ⟨none, rfl, rfl⟩ ?_ ?_
  · rintro s g1 ⟨o5, rfl, rfl⟩
    refine ⟨trivial, ?_⟩
    refine st_of rfl ?_
    walk_at "ss"
    first | exact rt_keep hq | exact hq
  · rintro k s g1 hk ⟨o5, rfl, rfl⟩ K hK
    refine ⟨trivial, ?_⟩
    show svs _ _ _ _ [some (.ref h), some (.tup [.lv (runs.map WD.w), .lv (times.map WD.w)]), some (.str nm), some (.int t), some (.int (inU tasks runs nm t k)), some (.int (0 + (k : Int)))] _
    have no : ∀ D : Ends3, D.nx = K → act (rn runs k) t = false → svs (callF P gl (n + 1)) gl .nil D [some (.ref h), some (.tup [.lv (runs.map WD.w), .lv (times.map WD.w)]), some (.str nm), some (.int t), some (.int (inU tasks runs nm t k)), some (.int (0 + (k : Int)))] g1 := fun D hD ha => by
      refine nl_of (CF := callF P gl (n + 1)) (gl := gl) ?_
      rw [hD]
      refine hK _ _ ⟨some (.int (0 + (k : Int))), ?_, rfl⟩
      rw [inU_s, ha]; simp
    refine st_of rfl ?_
    walk_at "ss"
    simp only [Int.zero_add] at no ⊢
    refine ixR0 hk ?_
    walk_at "ss"
    by_cases c1 : (rn runs k).a ≤ t
    · rw [if_pos c1]
      refine ixR0 hk ?_
      walk_at "ss"
      by_cases c2 : t < (rn runs k).b
      · rw [if_pos c2]
        refine st_of rfl ?_
        walk_at "ss"
        refine c_wayrun hF hn hk ?_
        refine c_manyof ?_
        walk_at "ss"
        refine nl_of (CF := callF P gl (n + 1)) (gl := gl) ?_
        refine hK _ _ ⟨some (.int (k : Int)), ?_, rfl⟩
        have ha : act (rn runs k) t = true := by unfold act; simp [c1, c2]
        rw [show inU tasks runs nm t (k + 1) = inU tasks runs nm t k + manyOf (wy tasks runs k) nm by rw [inU_s, ha]; rfl]
      · rw [if_neg c2]
        exact no _ rfl (by unfold act; simp [c2])
    · rw [if_neg c1]
      walk_at "ss"
      exact no _ rfl (by unfold act; simp [c1])
theorem tR_len {names : List Str} {S : List Int} : (tR tasks runs T S names).length ≤ names.length * S.length := by
  induction names with
  | nil => simp [tR]
  | cons a names ih =>
    have e : tR tasks runs T S (a :: names) = tR1 tasks runs T a S ++ tR tasks runs T S names := rfl
    rw [e, List.length_append, List.length_cons, Nat.succ_mul]
    have h1 : (tR1 tasks runs T a S).length ≤ S.length := by unfold tR1; rw [List.length_map]; exact List.length_filter_le _ _
    omega
theorem sort_tools {a : Addr} {lk : Bool} {q : VK3} (h : g a = some (.dic lk (toolK T))) (hq : newL g ((srt (T.map (·.1))).map W.str) q) : sortedS3 [.ref a] g q := by
  simp only [sortedS3, h]
  have e : (toolK T).map (fun p => kW p.1) = (T.map (·.1)).map W.str := by simp [toolK, kW, Function.comp_def]
  rw [e]
  exact sort_strs hq
theorem srt_memT {l : List Str} {x : Str} : x ∈ srt l ↔ x ∈ l := (List.mergeSort_perm l leStr).mem_iff
theorem srt_lenT {l : List Str} : (srt l).length = l.length := (List.mergeSort_perm l leStr).length_eq
theorem num_at {nm : Str} (h : nm ∈ T.map (·.1)) : dGet (toolK T) (.inr nm) = some (.int (numT T nm)) := by
  obtain ⟨p, hp, rfl⟩ := List.mem_map.mp h
  obtain ⟨v, hv⟩ := mem_dGet hp
  unfold numT
  rw [toolK_get, hv]; rfl
theorem rise_len {S : List Int} {L : List Int} (h : S.Pairwise (· < ·)) (hm : ∀ x ∈ S, x ∈ L) : S.length ≤ L.length := by
  have nd : S.Nodup := h.imp fun h z => by omega
  clear h
  induction L generalizing S with
  | nil =>
    cases S with
    | nil => exact Nat.le_refl _
    | cons a S => have := hm a List.mem_cons_self; cases this
  | cons a L ih =>
    have i1 := ih (S := S.erase a) (fun x hx => by
      rw [nd.mem_erase_iff] at hx
      exact (List.mem_cons.mp (hm x hx.2)).resolve_left hx.1) (nd.erase _)
    have : S.length ≤ (S.erase a).length + 1 := by rw [List.length_erase]; split <;> omega
    simp only [List.length_cons]; omega
theorem c_tools (hF : Fit tasks runs) (hr : runs.length ≤ 24) (hT : T.length ≤ 12) (hn : g h = some (.ins cN (netF tp tasks A prs m))) (ht : g tp = some (.dic false (toolK T))) {S : List Int} (hS : S.Pairwise (· < ·)) (hSm : ∀ t, t ∈ S ↔ t ∈ runs.map (·.a))
    (hq : q (.lv ((tR tasks runs T S (srt (T.map (·.1)))).map WD.w)) g) : callF P gl (n + 3) 9 [.ref h, planW runs times] g x q := by
  have hSl : S.length ≤ 24 := by have := rise_len hS fun x hx => (hSm x).mp hx; simp at this; omega
  refine u9 ?_
  show svs _ _ _ _ [some (.ref h), some (.tup [.lv (runs.map WD.w), .lv (times.map WD.w)]), none, none, none, none] g
  refine st_of rfl ?_
  walk_at "ss"
  intro p hp
  have hn2 : ∀ o, gup g p o h = some (.ins cN (netF tp tasks A prs m)) := fun o => by rw [gup_ne (ne_free hn hp)]; exact hn
  have ht2 : ∀ o, gup g p o tp = some (.dic false (toolK T)) := fun o => by rw [gup_ne (ne_free ht hp)]; exact ht
  refine st_of rfl ?_
  walk_at "ss"
  refine attr_of (hn2 _) rfl ?_
  refine sort_tools (ht2 _) (newF ?_)
  have hNl : (srt (T.map (·.1))).length ≤ 12 := by rw [srt_lenT]; simpa using hT
  have hNm : ∀ nm ∈ srt (T.map (·.1)), nm ∈ T.map (·.1) := fun nm h => srt_memT.mp h
  generalize srt (T.map (·.1)) = names at hq hNl hNm ⊢
  walk_at "ss"
  refine for_map (f := W.str) (fun pre post s g1 => ∃ o3 o4 o5, s = [some (.ref h), some (.tup [.lv (runs.map WD.w), .lv (times.map WD.w)]), some (.ref p), o3, o4, o5] ∧ g1 = gup g p (.lst ((tR tasks runs T S pre).map WD.w))) ⟨none, none, none, rfl, rfl⟩ ?_ ?_
  · rintro s g1 ⟨o3, o4, o5, rfl, rfl⟩
    refine ⟨trivial, ?_⟩
    walk_at "ss"
    rw [gdel_gup hp]
    refine st_of rfl ?_
    walk_at "ss"
    first | exact rt_keep hq | exact hq
  · rintro nm pre post s g1 hx ⟨o3, o4, o5, rfl, rfl⟩ K hK
    refine ⟨trivial, ?_⟩
    have hnm := hNm nm (by rw [hx]; simp)
    have hpl : (tR tasks runs T S pre).length ≤ 12 * 24 := by
      refine Nat.le_trans tR_len (Nat.mul_le_mul ?_ hSl)
      rw [hx] at hNl; simp at hNl; omega
    show svs _ _ _ _ [some (.ref h), some (.tup [.lv (runs.map WD.w), .lv (times.map WD.w)]), some (.ref p), some (.str nm), o4, o5] _
    refine st_of rfl ?_
    walk_at "ss"
    refine lc_all (f := WD.w) (u := WD.w) (e := fun r : Run => r.a) runs (fun r _ k hk => ?_) (by omega) (newF ?_)
    · rw [wdR]
      walk_at "ss"
      exact hk
    refine sset_ints (by simp; omega) fun S1 h1 h2 => newF ?_
    have eS : S1 = S := rise_same h1 hS fun t => (h2 t).trans (hSm t).symm
    subst eS
    walk_at "ss"
    refine for_map (f := W.int) (fun pre2 post2 s g2 => ∃ o4, s = [some (.ref h), some (.tup [.lv (runs.map WD.w), .lv (times.map WD.w)]), some (.ref p), some (.str nm), o4, o5] ∧ g2 = gup g p (.lst ((tR tasks runs T S1 pre ++ tR1 tasks runs T nm pre2).map WD.w))) ⟨o4, rfl, by rw [show tR1 tasks runs T nm [] = [] from rfl, List.append_nil]⟩ ?_ ?_
    · rintro s g2 ⟨o4, rfl, rfl⟩
      refine ⟨trivial, ?_⟩
      refine nl_of (CF := callF P gl (n + 2)) (gl := gl) ?_
      refine hK _ _ ⟨_, _, _, rfl, ?_⟩
      unfold tR
      rw [List.flatMap_append]
      simp
    · rintro t pre2 post2 s g2 hx2 ⟨o4, rfl, rfl⟩ K2 hK2
      refine ⟨trivial, ?_⟩
      show svs _ _ _ _ [some (.ref h), some (.tup [.lv (runs.map WD.w), .lv (times.map WD.w)]), some (.ref p), some (.str nm), some (.int t), o5] _
      refine st_of rfl ?_
      walk_at "ss"
      refine c_inuse (A := A) (prs := prs) (m := m) (tp := tp) hF (hn2 _) ?_
      refine attr_of (hn2 _) rfl ?_
      rw [ix_dic (ht2 _), num_at hnm]
      refine ⟨_, rfl, ?_⟩
      walk_at "ss"
      have es : tR1 tasks runs T nm (pre2 ++ [t]) = tR1 tasks runs T nm pre2 ++ if numT T nm < inU tasks runs nm t runs.length then [tRow nm t] else [] := by
        unfold tR1
        rw [List.filter_append, List.map_append]
        congr 1
        by_cases c : numT T nm < inU tasks runs nm t runs.length
        · rw [if_pos c, List.filter_cons_of_pos (by simpa using c)]; rfl
        · rw [if_neg c, List.filter_cons_of_neg (by simpa using c)]; rfl
      have h1l : (tR1 tasks runs T nm pre2).length ≤ 24 := by
        unfold tR1
        rw [List.length_map]
        refine Nat.le_trans (List.length_filter_le _ _) ?_
        rw [hx2] at hSl; simp at hSl; omega
      by_cases c : numT T nm < inU tasks runs nm t runs.length
      · rw [if_pos c]
        rw [if_pos c] at es
        refine st_of rfl ?_
        walk_at "ss"
        refine ⟨isLst_of gup_same, app_m (f := WD.w) (x := tRow nm t) gup_same (by rw [List.length_append]; omega) rfl ?_⟩
        rw [gup_gup]
        refine nl_of (CF := callF P gl (n + 2)) (gl := gl) ?_
        exact hK2 _ _ ⟨_, rfl, by rw [es, List.append_assoc]⟩
      · rw [if_neg c]
        rw [if_neg c, List.append_nil] at es
        refine nl_of (CF := callF P gl (n + 2)) (gl := gl) ?_
        exact hK2 _ _ ⟨_, rfl, by rw [es]⟩
end
section
variable {tasks : List (List Way)} {runs : List Run} {times : List Int} {A : List ArcT} {prs : List (Int × Int)} {m : Int} {h tp : Addr} {g : G} {x : XK3} {q : VK3} {n : Nat} {T : List (Str × Int)}
theorem c_meet {a b : Run} (hq : q (.bl (meetR a b)) g) : callF P gl (n + 1) 2 [.tup [.int a.a, .int a.b, .int a.c], .tup [.int b.a, .int b.b, .int b.c]] g x q := by
  refine u2 ?_
  refine st_of rfl ?_
  walk_at "ss"
  by_cases c1 : a.a < b.b
  · rw [if_pos c1]
    have e : meetR a b = decide (b.a < a.b) := by unfold meetR; rw [decide_eq_true c1]; rfl
    rw [e] at hq
    first | exact rt_keep hq | exact hq
  · rw [if_neg c1]
    have e : meetR a b = false := by unfold meetR; rw [decide_eq_false c1]; rfl
    rw [e] at hq
    first | exact rt_keep hq | exact hq
theorem c_two (hF : Fit tasks runs) (hn : g h = some (.ins cN (netF tp tasks A prs m))) {nm : Str} {i j : Nat} (hi : i < runs.length) (hj : j < runs.length) (hq : q (.bl (twoH tasks runs nm i j)) g) : callF P gl (n + 2) 10 [.ref h, .tup [.lv (runs.map WD.w), .lv (times.map WD.w)], .str nm, .int (i : Int), .int (j : Int)] g x q := by
  refine u10 ?_
  refine st_of rfl ?_
  walk_at "ss"
  refine ixR0 hi ?_
  refine ixR0 hj ?_
  refine c_meet ?_
  walk_at "ss"
  cases e : meetR (rn runs i) (rn runs j) with
  | false =>
    have et : twoH tasks runs nm i j = false := by unfold twoH; rw [e]; rfl
    rw [et] at hq
    simp only [Bool.false_eq_true, not_false_eq_true, if_true]
    refine st_of rfl ?_
    walk_at "ss"
    first | exact rt_keep hq | exact hq
  | true =>
    try simp only [not_true_eq_false, if_false]
    refine nl_of (CF := callF P gl (n + 1)) (gl := gl) ?_
    refine st_of rfl ?_
    walk_at "ss"
    refine c_wayrun hF hn hi ?_
    refine c_heatof ?_
    refine st_of rfl ?_
    walk_at "ss"
    refine c_wayrun hF hn hj ?_
    refine c_heatof ?_
    refine st_of rfl ?_
    walk_at "ss"
    have et : twoH tasks runs nm i j = match heatOf (wy tasks runs i) nm, heatOf (wy tasks runs j) nm with
      | some a, some b => decide (a ≠ b)
      | _, _ => false := by unfold twoH; rw [e]; rfl
    rw [et] at hq
    cases e1 : heatOf (wy tasks runs i) nm with
    | none =>
      rw [e1] at hq
      try simp only [optW]
      walk_at "ss"
      first | exact rt_keep hq | exact hq
    | some a =>
      rw [e1] at hq
      try simp only [optW]
      cases e2 : heatOf (wy tasks runs j) nm with
      | none =>
        rw [e2] at hq
        walk_at "ss"
        first | exact rt_keep hq | exact hq
      | some b =>
        rw [e2] at hq
        have hq : q (.bl (decide (a ≠ b))) g := hq
        rw [decide_not] at hq
        walk_at "ss"
        first | exact rt_keep hq | exact hq
theorem hR2_len {nm : Str} {i k : Nat} : (hR2 tasks runs nm i k).length ≤ k := pk_len
theorem hR1_len {nm : Str} : ∀ k : Nat, (hR1 tasks runs nm k).length ≤ k * runs.length
  | 0 => by simp [hR1]
  | k + 1 => by
    have ih := hR1_len (nm := nm) k
    have e : hR1 tasks runs nm (k + 1) = hR1 tasks runs nm k ++ hR2 tasks runs nm k (runs.length - (k + 1)) := by unfold hR1; rw [List.range_succ, List.flatMap_append]; simp
    have := hR2_len (tasks := tasks) (runs := runs) (nm := nm) (i := k) (k := runs.length - (k + 1))
    rw [e, List.length_append, Nat.succ_mul]; omega
theorem hR_len {names : List Str} : (hR tasks runs names).length ≤ names.length * (runs.length * runs.length) := by
  induction names with
  | nil => simp [hR]
  | cons a names ih =>
    have e : hR tasks runs (a :: names) = hR1 tasks runs a runs.length ++ hR tasks runs names := rfl
    have := hR1_len (tasks := tasks) (runs := runs) (nm := a) runs.length
    rw [e, List.length_append, List.length_cons, Nat.succ_mul]; omega
theorem c_heats (hF : Fit tasks runs) (hr : runs.length ≤ 24) (hT : T.length ≤ 12) (hn : g h = some (.ins cN (netF tp tasks A prs m))) (ht : g tp = some (.dic false (toolK T)))
    (hq : q (.lv ((hR tasks runs (srt (T.map (·.1)))).map WD.w)) g) : callF P gl (n + 3) 11 [.ref h, planW runs times] g x q := by
  refine u11 ?_
  show svs _ _ _ _ [some (.ref h), some (.tup [.lv (runs.map WD.w), .lv (times.map WD.w)]), none, none, none, none] g
  refine st_of rfl ?_
  walk_at "ss"
  intro p hp
  have hn2 : ∀ o, gup g p o h = some (.ins cN (netF tp tasks A prs m)) := fun o => by rw [gup_ne (ne_free hn hp)]; exact hn
  have ht2 : ∀ o, gup g p o tp = some (.dic false (toolK T)) := fun o => by rw [gup_ne (ne_free ht hp)]; exact ht
  refine st_of rfl ?_
  walk_at "ss"
  refine attr_of (hn2 _) rfl ?_
  refine sort_tools (ht2 _) (newF ?_)
  have hNl : (srt (T.map (·.1))).length ≤ 12 := by rw [srt_lenT]; simpa using hT
  generalize srt (T.map (·.1)) = names at hq hNl ⊢
  walk_at "ss"
  have hrr : runs.length * runs.length ≤ 24 * 24 := Nat.mul_le_mul hr hr
  refine for_map (f := W.str) (fun pre post s g1 => ∃ o3 o4 o5, s = [some (.ref h), some (.tup [.lv (runs.map WD.w), .lv (times.map WD.w)]), some (.ref p), o3, o4, o5] ∧ g1 = gup g p (.lst ((hR tasks runs pre).map WD.w))) ⟨none, none, none, rfl, rfl⟩ ?_ ?_
  · rintro s g1 ⟨o3, o4, o5, rfl, rfl⟩
    refine ⟨trivial, ?_⟩
    walk_at "ss"
    rw [gdel_gup hp]
    refine st_of rfl ?_
    walk_at "ss"
    first | exact rt_keep hq | exact hq
  · rintro nm pre post s g1 hx ⟨o3, o4, o5, rfl, rfl⟩ K hK
    refine ⟨trivial, ?_⟩
    have hpl : (hR tasks runs pre).length ≤ 12 * (24 * 24) := by
      refine Nat.le_trans hR_len (Nat.mul_le_mul ?_ hrr)
      rw [hx] at hNl; simp at hNl; omega
    show svs _ _ _ _ [some (.ref h), some (.tup [.lv (runs.map WD.w), .lv (times.map WD.w)]), some (.ref p), some (.str nm), o4, o5] _
    refine st_of rfl ?_
    walk_at "ss"
    refine ⟨small_len (by simp; omega), ?_⟩
    rw [Int.toNat_natCast, List.length_map]
    refine for_rng (fun i s g2 => ∃ o4 o5, s = [some (.ref h), some (.tup [.lv (runs.map WD.w), .lv (times.map WD.w)]), some (.ref p), some (.str nm), o4, o5] ∧ g2 = gup g p (.lst ((hR tasks runs pre ++ hR1 tasks runs nm i).map WD.w))) ⟨o4, o5, rfl, by rw [show hR1 tasks runs nm 0 = [] from rfl, List.append_nil]⟩ ?_ ?_
    · rintro s g2 ⟨o4, o5, rfl, rfl⟩
      refine ⟨trivial, ?_⟩
      refine nl_of (CF := callF P gl (n + 2)) (gl := gl) ?_
      refine hK _ _ ⟨_, _, _, rfl, ?_⟩
      unfold hR
      rw [List.flatMap_append]
      simp
    · rintro i s g2 hi ⟨o4, o5, rfl, rfl⟩ K2 hK2
      refine ⟨trivial, ?_⟩
      have h1l : (hR1 tasks runs nm i).length ≤ 24 * 24 := Nat.le_trans (hR1_len i) (Nat.mul_le_mul (by omega) hr)
      show svs _ _ _ _ [some (.ref h), some (.tup [.lv (runs.map WD.w), .lv (times.map WD.w)]), some (.ref p), some (.str nm), some (.int (0 + (i : Int))), o5] _
      simp only [Int.zero_add]
      refine st_of rfl ?_
      walk_at "ss"
      rw [List.length_map]
      refine ⟨(i : Int) + 1, (runs.length : Nat), rfl, rfl, by rw [show (i : Int) + 1 = ((i + 1 : Nat) : Int) by simp]; exact small_len (by omega), small_len (by omega), ?_⟩
      rw [show ((runs.length : Int) - ((i : Int) + 1)).toNat = runs.length - (i + 1) by omega]
      refine for_rng (fun k s g3 => ∃ o5, s = [some (.ref h), some (.tup [.lv (runs.map WD.w), .lv (times.map WD.w)]), some (.ref p), some (.str nm), some (.int (i : Int)), o5] ∧ g3 = gup g p (.lst ((hR tasks runs pre ++ hR1 tasks runs nm i ++ hR2 tasks runs nm i k).map WD.w))) ⟨o5, rfl, by rw [show hR2 tasks runs nm i 0 = [] from rfl, List.append_nil]⟩ ?_ ?_
      · rintro s g3 ⟨o5, rfl, rfl⟩
        refine ⟨trivial, ?_⟩
        refine nl_of (CF := callF P gl (n + 2)) (gl := gl) ?_
        refine hK2 _ _ ⟨_, _, rfl, ?_⟩
        have e : hR1 tasks runs nm (i + 1) = hR1 tasks runs nm i ++ hR2 tasks runs nm i (runs.length - (i + 1)) := by unfold hR1; rw [List.range_succ, List.flatMap_append]; simp
        rw [e, List.append_assoc]
      · rintro k s g3 hk ⟨o5, rfl, rfl⟩ K3 hK3
        refine ⟨trivial, ?_⟩
        have hj : (i : Int) + 1 + (k : Int) = ((i + 1 + k : Nat) : Int) := by simp
        have h2l : (hR2 tasks runs nm i k).length ≤ k := hR2_len
        show svs _ _ _ _ [some (.ref h), some (.tup [.lv (runs.map WD.w), .lv (times.map WD.w)]), some (.ref p), some (.str nm), some (.int (i : Int)), some (.int ((i : Int) + 1 + (k : Int)))] _
        rw [hj]
        refine st_of rfl ?_
        walk_at "ss"
        refine c_two (A := A) (prs := prs) (m := m) (tp := tp) hF (hn2 _) hi (by omega) ?_
        have es : hR2 tasks runs nm i (k + 1) = if twoH tasks runs nm i (i + 1 + k) = true then hR2 tasks runs nm i k ++ [hRow nm (i : Int) ((i + 1 + k : Nat) : Int)] else hR2 tasks runs nm i k := pk_succ
        walk_at "ss"
        cases e : twoH tasks runs nm i (i + 1 + k) with
        | true =>
          rw [e, if_pos rfl] at es
          rw [if_pos rfl]
          refine st_of rfl ?_
          walk_at "ss"
          refine ⟨isLst_of gup_same, app_m (f := WD.w) (x := hRow nm (i : Int) ((i + 1 + k : Nat) : Int)) gup_same (by rw [List.length_append, List.length_append]; omega) rfl ?_⟩
          rw [gup_gup]
          refine nl_of (CF := callF P gl (n + 2)) (gl := gl) ?_
          exact hK3 _ _ ⟨_, rfl, by rw [es, List.append_assoc]⟩
        | false =>
          rw [e, if_neg (by decide)] at es
          rw [if_neg (by decide)]
          refine nl_of (CF := callF P gl (n + 2)) (gl := gl) ?_
          exact hK3 _ _ ⟨_, rfl, by rw [es]⟩
theorem c_links (hA : A.length ≤ 600) (hr : runs.length ≤ 24) (ha : ∀ e ∈ A, (0 ≤ e.a ∧ e.a < (spots runs times).length) ∧ (0 ≤ e.b ∧ e.b < (spots runs times).length)) (hp : prs.length ≤ 300) (hpr : ∀ e ∈ prs, (0 ≤ e.1 ∧ e.1 < runs.length) ∧ (0 ≤ e.2 ∧ e.2 < runs.length))
    (hn : g h = some (.ins cN (netF tp tasks A prs m))) (hq : q (.lv ((aB (spots runs times) A ++ pB runs prs).map WD.w)) g) : callF P gl (n + 2) 8 [.ref h, planW runs times] g x q := by
  refine u8 ?_
  show svs _ _ _ _ [some (.ref h), some (.tup [.lv (runs.map WD.w), .lv (times.map WD.w)]), none, none, none, none, none, none, none] g
  refine st_of rfl ?_
  walk_at "ss"
  intro p hp0
  have ne : h ≠ p := ne_free hn hp0
  have hn2 : ∀ o, gup g p o h = some (.ins cN (netF tp tasks A prs m)) := fun o => by rw [gup_ne ne]; exact hn
  have haBl : (aB (spots runs times) A).length ≤ 600 := Nat.le_trans pk_len hA
  refine st_of rfl ?_
  walk_at "ss"
  refine attr_of (hn2 _) rfl ?_
  show lenS [.lv (A.map WD.w)] _ _
  walk_at "ss"
  refine ⟨small_len (by simp; omega), ?_⟩
  rw [Int.toNat_natCast, List.length_map]
  refine for_rng (fun k s g' => ∃ o3 o4 o5 o6, s = [some (.ref h), some (planW runs times), some (.ref p), o3, o4, o5, o6, none, none] ∧ g' = gup g p (.lst ((pk k (badA (spots runs times) A) fun i => (("arc", (i : Int)) : Str × Int)).map WD.w))) ⟨none, none, none, none, rfl, rfl⟩ ?_ ?_
  · rintro s g' ⟨o3, o4, o5, o6, rfl, rfl⟩
    refine ⟨trivial, ?_⟩
    refine st_of rfl ?_
    walk_at "ss"
    refine attr_of (hn2 _) rfl ?_
    show lenS [.lv (prs.map WD.w)] _ _
    walk_at "ss"
    refine ⟨small_len (by simp; omega), ?_⟩
    rw [Int.toNat_natCast, List.length_map]
    refine for_rng (fun k s g' => ∃ o3 o7 o8, s = [some (.ref h), some (planW runs times), some (.ref p), o3, o4, o5, o6, o7, o8] ∧ g' = gup g p (.lst ((aB (spots runs times) A ++ pk k (fun k => meetR (rn runs ((prs[k]?).getD (0, 0)).1.toNat) (rn runs ((prs[k]?).getD (0, 0)).2.toNat)) fun i => (("apart", (i : Int)) : Str × Int)).map WD.w))) ⟨o3, none, none, rfl, by rw [pk_zero, List.append_nil]; rfl⟩ ?_ ?_
    · rintro s g' ⟨o3, o7, o8, rfl, rfl⟩
      refine ⟨trivial, ?_⟩
      walk_at "ss"
      rw [gdel_gup hp0]
      refine st_of rfl ?_
      walk_at "ss"
      have hq : q (.lv ((aB (spots runs times) A ++ pk prs.length (fun k => meetR (rn runs ((prs[k]?).getD (0, 0)).1.toNat) (rn runs ((prs[k]?).getD (0, 0)).2.toNat)) fun i => (("apart", (i : Int)) : Str × Int)).map WD.w)) g := hq
      first | exact rt_keep hq | exact hq
    · rintro k s g' hk ⟨o3, o7, o8, rfl, rfl⟩ K hK
      have hb := hpr prs[k] (List.getElem_mem hk)
      have e1 := List.getElem?_eq_getElem hk
      have hl2 := pk_len (k := k) (c := fun k => meetR (rn runs ((prs[k]?).getD (0, 0)).1.toNat) (rn runs ((prs[k]?).getD (0, 0)).2.toNat)) (e := fun i => (("apart", (i : Int)) : Str × Int))
      generalize hE : prs[k] = e at *
      obtain ⟨i, j⟩ := e
      simp only at hb
      obtain ⟨⟨a1, a2⟩, b1, b2⟩ := hb
      obtain ⟨i, rfl⟩ := Int.eq_ofNat_of_zero_le a1
      obtain ⟨j, rfl⟩ := Int.eq_ofNat_of_zero_le b1
      refine ⟨trivial, ?_⟩
      show svs _ _ _ _ [some (.ref h), some (.tup [.lv (runs.map WD.w), .lv (times.map WD.w)]), some (.ref p), some (.int (0 + (k : Int))), o4, o5, o6, o7, o8] _
      simp only [Int.zero_add]
      refine st_of rfl ?_
      walk_at "ss"
      refine attr_of (hn2 _) rfl ?_
      refine ix_w e1 ?_
      refine ⟨rfl, ?_⟩
      show svs _ _ _ _ [some (.ref h), some (.tup [.lv (runs.map WD.w), .lv (times.map WD.w)]), some (.ref p), some (.int (k : Int)), o4, o5, o6, some (.int (i : Int)), some (.int (j : Int))] _
      refine st_of rfl ?_
      walk_at "ss"
      refine ixR0 (by omega) ?_
      refine ixR0 (by omega) ?_
      refine c_meet ?_
      walk_at "ss"
      cases c : meetR (rn runs i) (rn runs j) with
      | true =>
        rw [if_pos rfl]
        refine st_of rfl ?_
        walk_at "ss"
        refine ⟨isLst_of gup_same, app_m (f := WD.w) (x := (("apart", (k : Int)) : Str × Int)) gup_same (by rw [List.length_append]; omega) rfl ?_⟩
        rw [gup_gup]
        refine nl_of (CF := callF P gl (n + 1)) (gl := gl) ?_
        exact hK _ _ ⟨_, _, _, rfl, by rw [pk_succ, if_pos (show meetR (rn runs ((prs[k]?).getD (0, 0)).1.toNat) (rn runs ((prs[k]?).getD (0, 0)).2.toNat) = true from by rw [e1]; exact c), List.append_assoc]⟩
      | false =>
        rw [if_neg (by decide)]
        refine nl_of (CF := callF P gl (n + 1)) (gl := gl) ?_
        exact hK _ _ ⟨_, _, _, rfl, by rw [pk_succ, if_neg (show ¬ meetR (rn runs ((prs[k]?).getD (0, 0)).1.toNat) (rn runs ((prs[k]?).getD (0, 0)).2.toNat) = true from by rw [e1]; intro z; exact Bool.false_ne_true (c.symm.trans z))]⟩
  · rintro k s g' hk ⟨o3, o4, o5, o6, rfl, rfl⟩ K hK
    have ha := ha A[k] (List.getElem_mem hk)
    have e1 := List.getElem?_eq_getElem hk
    have eb : badA (spots runs times) A k = decide ((spots runs times).getD A[k].b.toNat 0 < (spots runs times).getD A[k].a.toNat 0 + A[k].c) := by unfold badA an; rw [e1]; rfl
    generalize A[k] = e at *
    obtain ⟨a, b, c⟩ := e
    simp only at ha eb
    obtain ⟨⟨a1, a2⟩, b1, b2⟩ := ha
    obtain ⟨a, rfl⟩ := Int.eq_ofNat_of_zero_le a1
    obtain ⟨b, rfl⟩ := Int.eq_ofNat_of_zero_le b1
    have ga := List.getElem?_eq_getElem (show a < (spots runs times).length by omega)
    have gb := List.getElem?_eq_getElem (show b < (spots runs times).length by omega)
    rw [Int.toNat_natCast, Int.toNat_natCast, List.getD_eq_getElem?_getD, List.getD_eq_getElem?_getD, ga, gb] at eb
    generalize (spots runs times)[a] = va at *
    generalize (spots runs times)[b] = vb at *
    simp only [Option.getD_some] at eb
    refine ⟨trivial, ?_⟩
    refine st_of rfl ?_
    walk_at "ss"
    refine attr_of (hn2 _) rfl ?_
    simp only [Int.zero_add]
    refine ix_w e1 ?_
    refine ⟨rfl, ?_⟩
    refine st_of rfl ?_
    walk_at "ss"
    refine c_timeof gb (by omega) ?_
    refine c_timeof ga (by omega) ?_
    walk_at "ss"
    by_cases cc : vb < va + c
    · rw [if_pos cc]
      refine st_of rfl ?_
      walk_at "ss"
      have hl2 := pk_len (k := k) (c := badA (spots runs times) A) (e := fun i => (("arc", (i : Int)) : Str × Int))
      refine ⟨isLst_of gup_same, app_m (f := WD.w) (x := (("arc", (k : Int)) : Str × Int)) gup_same (by omega) rfl ?_⟩
      rw [gup_gup]
      walk_at "nl"
      exact hK _ _ ⟨_, _, _, _, rfl, by rw [pk_succ, if_pos (by rw [eb]; simpa using cc)]⟩
    · rw [if_neg cc]
      walk_at "nl"
      exact hK _ _ ⟨_, _, _, _, rfl, by rw [pk_succ, if_neg (by rw [eb]; simpa using cc)]⟩
structure NetA (g : G) (h tp : Addr) (tasks : List (List Way)) (A : List ArcT) (prs : List (Int × Int)) (m : Int) (T : List (Str × Int)) (runs : List Run) (times : List Int) (S : List Int) : Prop where
  n : g h = some (.ins cN (netF tp tasks A prs m))
  t : g tp = some (.dic false (toolK T))
  F : Fit tasks runs
  m : (times.length : Int) = m
  s : times.length ≤ 1000
  lA : A.length ≤ 600
  r : ∀ e ∈ A, (0 ≤ e.a ∧ e.a < (spots runs times).length) ∧ (0 ≤ e.b ∧ e.b < (spots runs times).length)
  lp : prs.length ≤ 300
  pr : ∀ e ∈ prs, (0 ≤ e.1 ∧ e.1 < runs.length) ∧ (0 ≤ e.2 ∧ e.2 < runs.length)
  lr : runs.length ≤ 24
  lT : T.length ≤ 12
  hS : S.Pairwise (· < ·)
  Sm : ∀ t, t ∈ S ↔ t ∈ runs.map (·.a)
def brA (tasks : List (List Way)) (A : List ArcT) (prs : List (Int × Int)) (T : List (Str × Int)) (runs : List Run) (times : List Int) (S : List Int) : List BR :=
  ((tB tasks runs ++ mB times) ++ (aB (spots runs times) A ++ pB runs prs)).map toBR ++ tR tasks runs T S (srt (T.map (·.1))) ++ hR tasks runs (srt (T.map (·.1)))
theorem brA_len {S : List Int} (N : NetA g h tp tasks A prs m T runs times S) : (tB tasks runs ++ mB times).length ≤ 2000 ∧ (aB (spots runs times) A ++ pB runs prs).length ≤ 900 ∧ (tR tasks runs T S (srt (T.map (·.1)))).length ≤ 288 ∧ (hR tasks runs (srt (T.map (·.1)))).length ≤ 6912 := by
  have h1 : (tB tasks runs).length ≤ runs.length := pk_len
  have h2 : (mB times).length ≤ times.length := pk_len
  have h3 : (aB (spots runs times) A).length ≤ A.length := pk_len
  have h4 : (pB runs prs).length ≤ prs.length := pk_len
  have hS : S.length ≤ 24 := by have := rise_len N.hS fun x hx => (N.Sm x).mp hx; have := N.lr; simp at *; omega
  have hn : (srt (T.map (·.1))).length ≤ 12 := by rw [srt_lenT]; simpa using N.lT
  have h5 := Nat.le_trans (tR_len (tasks := tasks) (runs := runs) (T := T) (S := S) (names := srt (T.map (·.1)))) (Nat.mul_le_mul hn hS)
  have h6 := Nat.le_trans (hR_len (tasks := tasks) (runs := runs) (names := srt (T.map (·.1)))) (Nat.mul_le_mul hn (Nat.mul_le_mul N.lr N.lr))
  have := N.s; have := N.lA; have := N.lp; have := N.lr
  rw [List.length_append, List.length_append]
  exact ⟨by omega, by omega, h5, h6⟩
theorem c_breachesA {S : List Int} (N : NetA g h tp tasks A prs m T runs times S) (hq : q (.lv ((brA tasks A prs T runs times S).map WD.w)) g) : callF P gl (n + 4) 12 [.ref h, planW runs times] g x q := by
  obtain ⟨l1, l2, l3, l4⟩ := brA_len N
  refine u12 ?_
  show svs _ _ _ _ [some (.ref h), some (.tup [.lv (runs.map WD.w), .lv (times.map WD.w)]), none] g
  refine st_of rfl ?_
  walk_at "ss"
  refine c_isplan N.F N.m N.n ?_
  walk_at "ss"
  walk_at "nl"
  refine st_of rfl ?_
  walk_at "ss"
  refine c_tbroken N.F N.m N.s N.n ?_
  refine c_links N.lA N.lr N.r N.lp N.pr N.n ?_
  rw [wd_lst]
  walk_at "ss"
  refine ⟨sl_le (by rw [List.length_map, List.length_map]; omega), newF ?_⟩
  refine st_of rfl ?_
  walk_at "ss"
  refine c_tools N.F N.lr N.lT N.n N.t N.hS N.Sm ?_
  walk_at "ss"
  rw [← List.map_append, toBR_w, ← List.map_append]
  refine ⟨sl_le (by rw [List.length_map, List.length_map, List.length_map, List.length_append]; omega), newF ?_⟩
  refine c_heats N.F N.lr N.lT N.n N.t ?_
  walk_at "ss"
  rw [← List.map_append]
  refine ⟨sl_le (by rw [List.length_map, List.length_map, List.length_append, List.length_map, List.length_append]; omega), newF ?_⟩
  have hq : q (.lv ((((tB tasks runs ++ mB times) ++ (aB (spots runs times) A ++ pB runs prs)).map toBR ++ tR tasks runs T S (srt (T.map (·.1))) ++ hR tasks runs (srt (T.map (·.1)))).map WD.w)) g := hq
  first | exact rt_keep hq | exact hq
theorem c_fitsA {S : List Int} (N : NetA g h tp tasks A prs m T runs times S) (hq : q (.bl (decide (brA tasks A prs T runs times S = []))) g) : callF P gl (n + 5) 13 [.ref h, planW runs times] g x q := by
  refine u13 ?_
  refine st_of rfl ?_
  walk_at "ss"
  refine c_breachesA N ?_
  refine newF ?_
  refine eqS_w (α := List BR) (x := brA tasks A prs T runs times S) (y := []) (by decide) ?_
  rw [xor_f]
  first | exact rt_keep hq | exact hq
end
def Drawn (L : List Int) (m : Nat) : Prop := L.length = m ∧ ∀ z ∈ L, 0 ≤ z ∧ z < 2147483629
theorem c_drawn {n : Nat} {c : Int} {m : Nat} (hm : m ≤ 1000) {g : G} {x : XK3} {q : VK3} (h : ∀ L : List Int, Drawn L m → q (.lv (L.map W.int)) g) : callF P gl (n + 1) 24 [.int c, .int (m : Nat)] g x q := by
  refine u24 ?_
  refine st_of rfl ?_
  walk_at "ss"
  intro p hp
  refine st_of rfl ?_
  walk_at "ss"
  refine st_of rfl ?_
  walk_at "ss"
  refine ⟨small_len (by omega), ?_⟩
  rw [Int.toNat_natCast]
  have hb : ∀ z : Int, ∃ k : Nat, k < 2147483629 ∧ z.fmod 2147483629 = (k : Int) := fun z => mod_nat z (m := 2147483629) (by decide)
  obtain ⟨a, ha, ea⟩ := hb c
  rw [ea]
  refine for_rng (fun k s g' => ∃ (L : List Int) (a : Nat) (o : Option W), Drawn L k ∧ a < 2147483629 ∧ s = [some (.int c), some (.int (m : Nat)), some (.ref p), some (.int (a : Nat)), o] ∧ g' = gup g p (.lst (L.map W.int))) ⟨[], a, none, ⟨rfl, fun z hz => (nomatch hz)⟩, ha, rfl, rfl⟩ ?_ ?_
  · rintro s g' ⟨L, a, o, e1, _, rfl, rfl⟩
    refine ⟨trivial, ?_⟩
    walk_at "ss"
    rw [gdel_gup hp]
    refine st_of rfl ?_
    walk_at "ss"
    first | exact rt_keep (h L e1) | exact h L e1
  · rintro k s g' hk ⟨L, a, o, e1, ha, rfl, rfl⟩ K hK
    refine ⟨trivial, ?_⟩
    walk_at "st"
    refine mul_of (mul_sm (by omega) (by omega)) ?_
    walk_at "ss"
    obtain ⟨b, hb1, eb⟩ := hb ((a : Int) * 69621 + (a : Int).fdiv 127 * 7 + 40692 + (0 + (k : Nat)) * (0 + (k : Nat)))
    rw [eb]
    walk_at "st"
    refine ⟨isLst_of gup_same, app_m (x := (b : Int)) gup_same (by rw [e1.1]; omega) rfl ?_⟩
    rw [gup_gup]
    walk_at "nl"
    refine hK _ _ ⟨L ++ [(b : Int)], b, _, ⟨by simp [e1.1], fun z hz => ?_⟩, hb1, rfl, rfl⟩
    rcases List.mem_append.mp hz with hz | hz
    · exact e1.2 z hz
    · simp at hz; omega
structure ToolOk (T : List (Str × Int)) : Prop where
  b : ∀ p ∈ T, 1 ≤ p.2 ∧ p.2 ≤ 8
  nd : (T.map (·.1)).Nodup
theorem ToolOk.nil : ToolOk [] := ⟨by simp, by simp⟩
theorem ToolOk.put {T : List (Str × Int)} (h : ToolOk T) {k : Str} {v : Int} (hv : 1 ≤ v ∧ v ≤ 8) : ToolOk (dPut T k v) := by
  refine ⟨fun p hp => ?_, ?_⟩
  · cases e : dGet (dPut T k v) p.1 with
    | none => obtain ⟨v, hv⟩ := mem_dGet hp; rw [e] at hv; cases hv
    | some w =>
      unfold dPut at hp
      split at hp
      · obtain ⟨a, ha, rfl⟩ := List.mem_map.mp hp
        split
        · exact hv
        · exact h.b a ha
      · rcases List.mem_append.mp hp with z | z
        · exact h.b p z
        · rw [List.mem_singleton.mp z]; exact hv
  · rw [dPut_keys]
    split
    · exact h.nd
    · rename_i c
      refine List.nodup_append.mpr ⟨h.nd, by simp, fun a ha b hb z => ?_⟩
      rw [List.mem_singleton] at hb
      subst hb
      subst z
      obtain ⟨p, hp, e⟩ := List.mem_map.mp ha
      obtain ⟨v, hv⟩ := mem_dGet hp
      rw [e] at hv
      exact c (by rw [hv]; rfl)
theorem toolK_put {T : List (Str × Int)} {nm : Str} {v : Int} : dPut (toolK T) (.inr nm) (.int v) = toolK (dPut T nm v) := by
  have hk : (toolK T).any (fun p => decide (p.1 = (Sum.inr nm : Key))) = T.any (fun p => decide (p.1 = nm)) := by
    unfold toolK
    rw [List.any_map]
    congr 1
    funext p
    simp [Sum.inr.injEq]
  unfold dPut
  rw [hk]
  cases T.any (fun p => decide (p.1 = nm)) with
  | true =>
    simp only [if_true]
    unfold toolK
    rw [List.map_map, List.map_map]
    refine List.map_congr_left fun p _ => ?_
    simp only [Function.comp_apply, Sum.inr.injEq]
    by_cases c : p.1 = nm
    · rw [if_pos c, if_pos c]
    · rw [if_neg c, if_neg c]
  | false =>
    simp only [Bool.false_eq_true, if_false]
    unfold toolK
    rw [List.map_append]; rfl
theorem put_tool {g : G} {a : Addr} {T : List (Str × Int)} {nm : Str} {v : Int} {K : G → Prop} (h : g a = some (.dic false (toolK T))) (hl : T.length ≤ 1000) (hK : K (gup g a (.dic false (toolK (dPut T nm v))))) : putS (.ref a) (.str nm) (.int v) g K := by
  simp only [putS, h, toKey]
  exact ⟨small_line (by simp [toolK]; omega), by rw [toolK_put]; exact hK⟩
theorem num_b {T : List (Str × Int)} (h : ToolOk T) {nm : Str} (hm : nm ∈ T.map (·.1)) : 1 ≤ numT T nm ∧ numT T nm ≤ 8 := by
  obtain ⟨p, hp, rfl⟩ := List.mem_map.mp hm
  obtain ⟨v, hv⟩ := mem_dGet hp
  have := h.b _ (dGet_mem hv)
  unfold numT
  rw [hv]; exact this
theorem ex_rise : ∀ L : List Int, ∃ S : List Int, S.Pairwise (· < ·) ∧ ∀ t, t ∈ S ↔ t ∈ L
  | [] => ⟨[], .nil, fun _ => Iff.rfl⟩
  | a :: L => by
    obtain ⟨S, h1, h2⟩ := ex_rise L
    refine ⟨S.filter (fun t => decide (t < a)) ++ a :: S.filter (fun t => decide (a < t)), ?_, fun t => ?_⟩
    · refine List.pairwise_append.mpr ⟨h1.filter _, List.pairwise_cons.mpr ⟨fun b hb => ?_, h1.filter _⟩, fun x hx y hy => ?_⟩
      · simpa using (List.mem_filter.mp hb).2
      · have hx := (List.mem_filter.mp hx).2
        have hx : x < a := by simpa using hx
        rcases List.mem_cons.mp hy with rfl | hy
        · exact hx
        · have : a < y := by simpa using (List.mem_filter.mp hy).2
          omega
    · simp only [List.mem_append, List.mem_filter, List.mem_cons, decide_eq_true_eq, h2]
      constructor
      · rintro (h | h | h)
        · exact .inr h.1
        · exact .inl h
        · exact .inr h.1
      · rintro (h | h)
        · exact .inr (.inl h)
        · rcases Int.lt_trichotomy t a with c | c | c
          · exact .inl ⟨h, c⟩
          · exact .inr (.inl c)
          · exact .inr (.inr ⟨h, c⟩)
theorem many_nn {T : List (Str × Int)} {w : Way} {nm : Str} (hw : WayOk T w) : 0 ≤ manyOf w nm := by
  unfold manyOf useOf
  cases e : w.c.find? (fun u => decide (u.a = nm)) with
  | none => exact Int.le_refl _
  | some u =>
    obtain ⟨c, _, h, _⟩ := (hw.us u (List.mem_of_find?_eq_some e)).ex
    show 0 ≤ u.b
    omega
def Heats (T : List (Str × Int)) (w : Way) : Prop := ∀ u ∈ w.c, ∃ k : Nat, (T.map (·.1))[k]? = some u.a ∧ u.c = 5 * (k : Int)
theorem nodup_ix {α : Type} : ∀ {l : List α} {a : α} {i j : Nat}, l.Nodup → l[i]? = some a → l[j]? = some a → i = j
  | [], _, _, _, _, h, _ => by simp at h
  | b :: l, a, 0, 0, _, _, _ => rfl
  | b :: l, a, 0, j + 1, n, h, k => by
    simp at h k; subst h
    exact absurd (List.mem_of_getElem? k) (List.nodup_cons.mp n).1
  | b :: l, a, i + 1, 0, n, h, k => by
    simp at h k; subst k
    exact absurd (List.mem_of_getElem? h) (List.nodup_cons.mp n).1
  | b :: l, a, i + 1, j + 1, n, h, k => by
    simp at h k
    rw [nodup_ix (List.nodup_cons.mp n).2 h k]
theorem wy_all {Pr : Way → Prop} {tasks : List (List Way)} {runs : List Run} (h : ∀ ws ∈ tasks, ∀ w ∈ ws, Pr w) (h0 : Pr ⟨0, 0, []⟩) (k : Nat) : Pr (wy tasks runs k) := by
  unfold wy
  cases e : tasks[k]? with
  | none => simpa using h0
  | some ws =>
    simp only [Option.getD_some]
    cases e2 : ws[(rn runs k).c.toNat]? with
    | none => simpa using h0
    | some w => simpa using h ws (List.mem_of_getElem? e) w (List.mem_of_getElem? e2)
section
variable {n : Nat} {h td : Addr} {T : List (Str × Int)} {tasks : List (List Way)} {A : List ArcT} {m : Int} {g : G} {x : XK3} {q : VK3}
theorem c_netN0 (hl : T.length ≤ 12) (hb : ∀ p ∈ T, 1 ≤ p.2 ∧ p.2 ≤ 8) (ht : tasks.length ≤ 24) (hw : ∀ ws ∈ tasks, (ws.length = 1 ∨ ws.length = 2) ∧ ∀ w ∈ ws, WayOk T w)
    (hA : A.length ≤ 600) (ha : ∀ e ∈ A, (0 ≤ e.a ∧ e.a < 2 * tasks.length + m) ∧ (0 ≤ e.b ∧ e.b < 2 * tasks.length + m) ∧ -1000000000 ≤ e.c ∧ e.c ≤ 1000000000) (hm : 0 ≤ m ∧ m ≤ 8)
    (hh : g h = some (.ins cN [])) (hg : g td = some (.dic false (toolK T)))
    (hq : ∀ tp, g tp = none → q .non (gup (gup g tp (.dic false (toolK T))) h (.ins cN (netF tp tasks A [] m)))) : svs (callF P gl (n + 2)) gl b21_0 (DD g x q) [some (.ref h), some (.ref td), some (.lv (tasks.map WD.w)), some (.lv (A.map WD.w)), some .non, some (.int m)] g := by
  refine st_of rfl ?_
  walk_at "ss"
  try rw [if_pos hm.1, if_neg (fun z => z hm.2)]
  walk_at "nl"
  have nht : h ≠ td := fun z => by rw [z, hg] at hh; cases hh
  refine st_of rfl ?_
  walk_at "ss"
  refine c_ktools hl hb hg fun tp htp => ?_
  have n1 : h ≠ tp := ne_free hh htp
  have n2 : td ≠ tp := ne_free hg htp
  refine seta_of (by rw [gup_ne n1]; exact hh) (by decide) ?_
  have hg2 : ∀ fs, gup (gup g tp (.dic false (toolK T))) h (.ins cN fs) td = some (.dic false (toolK T)) := fun fs => by rw [gup_ne (Ne.symm nht), gup_ne n2]; exact hg
  refine st_of rfl ?_
  walk_at "ss"
  refine c_ktasks ht hw (hg2 _) ?_
  refine seta_of gup_same (show (1 : Nat) < 1000 by decide) ?_
  rw [gup_gup]
  refine st_of rfl ?_
  walk_at "ss"
  refine c_karcs hA (by simpa using ha) ?_
  refine seta_of gup_same (show (2 : Nat) < 1000 by decide) ?_
  rw [gup_gup]
  refine st_of rfl ?_
  walk_at "ss"
  refine u20 ?_
  refine st_of rfl ?_
  walk_at "ss"
  refine st_of rfl ?_
  walk_at "ss"
  try refine newF ?_
  try rw [rtS_same]
  refine seta_of gup_same (show (3 : Nat) < 1000 by decide) ?_
  rw [gup_gup]
  refine st_of rfl ?_
  walk_at "ss"
  refine seta_of gup_same (show (4 : Nat) < 1000 by decide) ?_
  rw [gup_gup]
  walk_at "nl"
  exact .inl (hq tp htp)
theorem c_netN4 (hl : T.length ≤ 12) (hb : ∀ p ∈ T, 1 ≤ p.2 ∧ p.2 ≤ 8) (ht : tasks.length ≤ 24) (hw : ∀ ws ∈ tasks, (ws.length = 1 ∨ ws.length = 2) ∧ ∀ w ∈ ws, WayOk T w)
    (hA : A.length ≤ 600) (ha : ∀ e ∈ A, (0 ≤ e.a ∧ e.a < 2 * tasks.length + (0 : Int)) ∧ (0 ≤ e.b ∧ e.b < 2 * tasks.length + (0 : Int)) ∧ -1000000000 ≤ e.c ∧ e.c ≤ 1000000000)
    (hh : g h = some (.ins cN [])) (hg : g td = some (.dic false (toolK T)))
    (hq : ∀ tp, g tp = none → q .non (gup (gup g tp (.dic false (toolK T))) h (.ins cN (netF tp tasks A [] 0)))) : callF P gl (n + 3) 21 [.ref h, .ref td, .lv (tasks.map WD.w), .lv (A.map WD.w)] g x q :=
  u21_4 (c_netN0 hl hb ht hw hA ha (by decide) hh hg hq)
end
def rngI (N : Nat) : List Int := (List.range N).map fun (k : Nat) => (k : Int)
def hadOf (E : Nat → Int) (b : Int) (L : List (List Int)) (ahead : List Nat) : List Int := (ahead.filter fun j => decide (b < E j)).flatMap fun j => (L[j]?).getD []
def freeOf (N : Nat) (had : List Int) : List Int := (rngI N).filter fun p => decide (p ∉ had)
def deal1 (E : Nat → Int) (M : Nat → Nat) (N : Nat) (st : List (List Int) × List Nat) (p : Int × Nat) : List (List Int) × List Nat :=
  (st.1.set p.2 ((freeOf N (hadOf E p.1 st.1 st.2)).take (M p.2)), st.2 ++ [p.2])
def dealS (E : Nat → Int) (M : Nat → Nat) (N m : Nat) (O : List (Int × Nat)) : List (List Int) × List Nat := O.foldl (deal1 E M N) (List.replicate m [], [])
theorem dealS_snoc {E : Nat → Int} {M : Nat → Nat} {N m : Nat} {O : List (Int × Nat)} {p : Int × Nat} : dealS E M N m (O ++ [p]) = deal1 E M N (dealS E M N m O) p := by unfold dealS; rw [List.foldl_append]; rfl
theorem dealS_len {E : Nat → Int} {M : Nat → Nat} {N m : Nat} : ∀ {O : List (Int × Nat)} {st : List (List Int) × List Nat}, (O.foldl (deal1 E M N) st).1.length = st.1.length ∧ (O.foldl (deal1 E M N) st).2 = st.2 ++ O.map (·.2)
  | [], st => by simp
  | p :: O, st => by
    rw [List.foldl_cons]
    obtain ⟨h1, h2⟩ := dealS_len (E := E) (M := M) (N := N) (m := m) (O := O) (st := deal1 E M N st p)
    exact ⟨by rw [h1]; simp [deal1], by rw [h2]; simp [deal1]⟩
theorem deal_l {E : Nat → Int} {M : Nat → Nat} {N m : Nat} {O : List (Int × Nat)} : (dealS E M N m O).1.length = m := by
  have := (dealS_len (E := E) (M := M) (N := N) (m := m) (O := O) (st := (List.replicate m [], []))).1
  simpa [dealS] using this
theorem hadOf_snoc {E : Nat → Int} {b : Int} {L : List (List Int)} {ah : List Nat} {j : Nat} : hadOf E b L (ah ++ [j]) = hadOf E b L ah ++ (if b < E j then (L[j]?).getD [] else []) := by
  unfold hadOf
  rw [List.filter_append, List.flatMap_append]
  congr 1
  by_cases h : b < E j
  · rw [if_pos h, List.filter_cons_of_pos (by simpa using h)]; simp
  · rw [if_neg h, List.filter_cons_of_neg (by simpa using h)]; rfl
theorem freeOf_len {N : Nat} {had : List Int} : (freeOf N had).length ≤ N := Nat.le_trans (List.length_filter_le _ _) (by simp [rngI])
theorem deal_row {E : Nat → Int} {M : Nat → Nat} {N : Nat} : ∀ {O : List (Int × Nat)} {st : List (List Int) × List Nat}, (∀ r ∈ st.1, r.length ≤ N ∧ ∀ z ∈ r, 0 ≤ z ∧ z < N) → ∀ r ∈ (O.foldl (deal1 E M N) st).1, r.length ≤ N ∧ ∀ z ∈ r, 0 ≤ z ∧ z < N
  | [], st, h => h
  | p :: O, st, h => by
    rw [List.foldl_cons]
    refine deal_row (O := O) fun r hr => ?_
    rcases List.mem_or_eq_of_mem_set hr with hr | hr
    · exact h r hr
    · subst hr
      refine ⟨Nat.le_trans (by rw [List.length_take]; exact Nat.min_le_right _ _) freeOf_len, fun z hz => ?_⟩
      have := (List.mem_filter.mp (List.mem_of_mem_take hz)).1
      obtain ⟨k, hk, rfl⟩ := List.mem_map.mp this
      rw [List.mem_range] at hk
      omega
theorem deal_rows {E : Nat → Int} {M : Nat → Nat} {N m : Nat} {O : List (Int × Nat)} : ∀ r ∈ (dealS E M N m O).1, r.length ≤ N ∧ ∀ z ∈ r, 0 ≤ z ∧ z < (N : Int) := by
  refine deal_row fun r hr => ?_
  have := (List.mem_replicate.mp hr).2
  subst this
  exact ⟨Nat.zero_le _, by simp⟩
def begO (B : Nat → Int) (m : Nat) : List (Int × Nat) := ((srtd ((List.range m).map fun (k : Nat) => ((B k, (k : Int)) : Int × Int))).map fun p => (p.1, p.2.toNat))
theorem begO_w {B : Nat → Int} {m : Nat} : (srtd ((List.range m).map fun (k : Nat) => ((B k, (k : Int)) : Int × Int))).map WD.w = (begO B m).map fun p => W.tup [.int p.1, .int (p.2 : Int)] := by
  unfold begO
  rw [List.map_map]
  refine List.map_congr_left fun p hp => ?_
  rw [srtd_mem] at hp
  obtain ⟨k, _, rfl⟩ := List.mem_map.mp hp
  simp only [Function.comp, Int.toNat_natCast]
  rfl
theorem begO_mem {B : Nat → Int} {m : Nat} {p : Int × Nat} (h : p ∈ begO B m) : p.2 < m ∧ p.1 = B p.2 := by
  obtain ⟨z, hz, rfl⟩ := List.mem_map.mp h
  rw [srtd_mem] at hz
  obtain ⟨k, hk, rfl⟩ := List.mem_map.mp hz
  simp only [Int.toNat_natCast]
  exact ⟨List.mem_range.mp hk, trivial⟩
theorem begO_len {B : Nat → Int} {m : Nat} : (begO B m).length = m := by unfold begO; rw [List.length_map, srtd_len]; simp
theorem begO_nd {B : Nat → Int} {m : Nat} : ((begO B m).map (·.2)).Nodup := by
  have p := (srtd_perm ((List.range m).map fun (k : Nat) => ((B k, (k : Int)) : Int × Int))).map fun p : Int × Int => p.2.toNat
  have e : (begO B m).map (·.2) = (srtd ((List.range m).map fun (k : Nat) => ((B k, (k : Int)) : Int × Int))).map fun p => p.2.toNat := by unfold begO; rw [List.map_map]; rfl
  rw [e, p.nodup_iff, List.map_map]
  have : ((List.range m).map ((fun p : Int × Int => p.2.toNat) ∘ fun (k : Nat) => ((B k, (k : Int)) : Int × Int))) = List.range m := by
    conv => rhs; rw [← List.map_id (List.range m)]
    exact List.map_congr_left fun k _ => by simp
  rw [this]
  exact List.nodup_range
theorem begO_map {B B' : Nat → Int} {f : Int → Int} {m : Nat} (hf : ∀ a b, a < b ↔ f a < f b) (h : ∀ k, k < m → B' k = f (B k)) : begO B' m = (begO B m).map fun p => (f p.1, p.2) := by
  unfold begO
  have inj : ∀ a b, f a = f b → a = b := fun a b e => by
    have h1 := hf a b
    have h2 := hf b a
    rw [e] at h1 h2
    omega
  have e0 : (List.range m).map (fun (k : Nat) => ((B' k, (k : Int)) : Int × Int)) = ((List.range m).map fun (k : Nat) => ((B k, (k : Int)) : Int × Int)).map fun p => (f p.1, p.2) := by
    rw [List.map_map]
    exact List.map_congr_left fun k hk => by simp [h k (List.mem_range.mp hk)]
  have e1 : srtd (((List.range m).map fun (k : Nat) => ((B k, (k : Int)) : Int × Int)).map fun p => (f p.1, p.2)) = (srtd ((List.range m).map fun (k : Nat) => ((B k, (k : Int)) : Int × Int))).map fun p => (f p.1, p.2) := by
    refine srtd_eq ((srtd_perm _).map _) ?_
    refine List.Pairwise.map _ (fun a b hab => ?_) (srtd_pw _)
    unfold oLe at hab ⊢
    have hlt : ∀ x y : Int × Int, DatumOrd.lt (f x.1, x.2) (f y.1, y.2) = DatumOrd.lt x y := fun x y => by
      show (if f x.1 = f y.1 then decide (x.2 < y.2) else decide (f x.1 < f y.1)) = (if x.1 = y.1 then decide (x.2 < y.2) else decide (x.1 < y.1))
      by_cases c : x.1 = y.1
      · rw [if_pos c, if_pos (by rw [c])]
      · rw [if_neg c, if_neg (fun z => c (inj _ _ z))]
        rw [decide_eq_decide]
        exact (hf _ _).symm
    rw [hlt]; exact hab
  rw [e0, e1, List.map_map, List.map_map]
  rfl
theorem dealS_map {E E' : Nat → Int} {M M' : Nat → Nat} {N m : Nat} {f : Int → Int} (hf : ∀ a b, a < b ↔ f a < f b) : ∀ {O : List (Int × Nat)}, (∀ p ∈ O, p.2 < m ∧ M' p.2 = M p.2) → (∀ j, j < m → E' j = f (E j)) → dealS E' M' N m (O.map fun p => (f p.1, p.2)) = dealS E M N m O := by
  intro O hO hE
  unfold dealS
  rw [List.foldl_map]
  have : ∀ (O : List (Int × Nat)) (st : List (List Int) × List Nat), (∀ p ∈ O, p.2 < m ∧ M' p.2 = M p.2) → (∀ j ∈ st.2, j < m) → O.foldl (fun st p => deal1 E' M' N st (f p.1, p.2)) st = O.foldl (deal1 E M N) st := by
    intro O
    induction O with
    | nil => intro st _ _; rfl
    | cons p O ih =>
      intro st h1 h2
      obtain ⟨a1, a2⟩ := h1 p List.mem_cons_self
      rw [List.foldl_cons, List.foldl_cons]
      have e : deal1 E' M' N st (f p.1, p.2) = deal1 E M N st p := by
        unfold deal1
        have eh : hadOf E' (f p.1) st.1 st.2 = hadOf E p.1 st.1 st.2 := by
          unfold hadOf
          congr 1
          refine List.filter_congr fun j hj => ?_
          rw [hE j (h2 j hj), decide_eq_decide]
          exact (hf _ _).symm
        simp only [eh, a2]
      rw [e]
      refine ih _ (fun q hq => h1 q (List.mem_cons_of_mem _ hq)) fun j hj => ?_
      rcases List.mem_append.mp hj with hj | hj
      · exact h2 j hj
      · rw [List.mem_singleton.mp hj]; exact a1
  exact this O _ hO (by simp)
theorem hadOf_len {E : Nat → Int} {b : Int} {L : List (List Int)} (hL : ∀ r ∈ L, r.length ≤ 8) : ∀ {l : List Nat}, (hadOf E b L l).length ≤ l.length * 8
  | [] => by simp [hadOf]
  | z :: l => by
    have ih := hadOf_len (E := E) (b := b) hL (l := l)
    have hz : ((L[z]?).getD []).length ≤ 8 := by
      cases e : L[z]? with
      | none => simp
      | some r => exact hL r (List.mem_of_getElem? e)
    unfold hadOf at ih ⊢
    by_cases c : b < E z
    · rw [List.filter_cons_of_pos (by simpa using c), List.flatMap_cons, List.length_append, List.length_cons]
      omega
    · rw [List.filter_cons_of_neg (by simpa using c), List.length_cons]
      omega
structure RowsH (g0 g : G) (p : Addr) (L : List (List Int)) (as : List Addr) : Prop where
  l : g p = some (.lst (as.map W.ref))
  n : as.length = L.length
  r : ∀ (i : Nat) (a : Addr), as[i]? = some a → g a = some (.lst (((L[i]?).getD []).map W.int)) ∧ g0 a = none ∧ a ≠ p
  fp : g0 p = none
theorem RowsH.mono {g0 g g' : G} {p : Addr} {L : List (List Int)} {as : List Addr} (h : RowsH g0 g p L as) (k : ∀ a o, g a = some o → g0 a = none → g' a = some o) : RowsH g0 g' p L as :=
  ⟨k _ _ h.l h.fp, h.n, fun i a e => by obtain ⟨h1, h2, h3⟩ := h.r i a e; exact ⟨k _ _ h1 h2, h2, h3⟩, h.fp⟩
theorem ext_z {g g' : G} {p : Addr} (x : Ext g g') (h : g' p = none) : g p = none := by
  cases z : g p with
  | none => rfl
  | some o => rw [x p o z] at h; cases h
section
variable {g : G} {x : XK3} {q : VK3} {n : Nat} {h tp : Addr} {tasks : List (List Way)} {A : List ArcT} {prs : List (Int × Int)} {m : Int} {T : List (Str × Int)} {runs : List Run} {times : List Int}
def rowsD (tasks : List (List Way)) (runs : List Run) (T : List (Str × Int)) (nm : Str) : List (List Int) := (dealS (fun j => (rn runs j).b) (fun j => (manyOf (wy tasks runs j) nm).toNat) (numT T nm).toNat runs.length (begO (fun j => (rn runs j).a) runs.length)).1
theorem c_pieces (hF : Fit tasks runs) (hr : runs.length ≤ 24) (hn : g h = some (.ins cN (netF tp tasks A prs m))) {lk : Bool} (ht : g tp = some (.dic lk (toolK T))) {nm : Str} (hm : ∀ k, 0 ≤ manyOf (wy tasks runs k) nm) (hnm : nm ∈ T.map (·.1)) (hb : 1 ≤ numT T nm ∧ numT T nm ≤ 8)
    (hq : ∀ p as g', Ext g g' → RowsH g g' p (rowsD tasks runs T nm) as → q (.ref p) g') : callF P gl (n + 3) 14 [.ref h, planW runs times, .str nm] g x q := by
  refine u14 ?_
  show svs _ _ _ _ [some (.ref h), some (.tup [.lv (runs.map WD.w), .lv (times.map WD.w)]), some (.str nm), none, none, none, none, none, none, none, none, none, none, none] g
  refine st_of rfl ?_
  walk_at "ss"
  refine st_of rfl ?_
  walk_at "ss"
  refine lc_ind (fun rest acc g1 => Ext g g1 ∧ ∃ (as : List Addr), acc = as.map W.ref ∧ rest.length + as.length = runs.length ∧ (∀ a ∈ as, g1 a = some (.lst []) ∧ g a = none)) ?_ ?_ _ _ _ ⟨Ext.refl, [], rfl, by simp, by simp⟩
  · rintro acc g1 ⟨X1, as, rfl, hl, has⟩
    refine ⟨trivial, ?_⟩
    intro p hp
    have hl : as.length = runs.length := by simpa using hl
    have hgp : g p = none := ext_z X1 hp
    have X2 : Ext g (gup g1 p (.lst (as.map W.ref))) := X1.trans (Ext.new hp)
    have R2 : RowsH g (gup g1 p (.lst (as.map W.ref))) p (List.replicate runs.length []) as := by
      refine ⟨gup_same, by simpa using hl, fun i a e => ?_, hgp⟩
      obtain ⟨h1, h2⟩ := has a (List.mem_of_getElem? e)
      have hap : a ≠ p := ne_free h1 hp
      refine ⟨?_, h2, hap⟩
      rw [gup_ne hap, h1]
      have : ((List.replicate runs.length ([] : List Int))[i]?).getD [] = [] := by
        rw [List.getElem?_replicate]; split <;> rfl
      rw [this]; rfl
    generalize gup g1 p (.lst (as.map W.ref)) = g2 at *
    refine st_of rfl ?_
    walk_at "ss"
    intro d hd
    have hpd : p ≠ d := ne_free R2.l hd
    have hgd : g d = none := ext_z X2 hd
    refine st_of rfl ?_
    walk_at "ss"
    rw [List.length_map]
    refine ⟨small_len (by omega), ?_⟩
    rw [Int.toNat_natCast]
    refine lc_val (f := fun k : Nat => W.int (0 + (k : Nat))) (u := WD.w (α := Int × Int)) (c := fun _ => true) (e := fun k => ((rn runs k).a, (k : Int))) (List.range runs.length) [] (fun k hk Q hQ => ?_) (fun k hk _ Q hQ => ?_) (by simp; omega) (newF ?_)
    · exact hQ
    · have hk : k < runs.length := List.mem_range.mp hk
      walk_at "ss"
      rw [Int.zero_add]
      refine ixR0 hk ?_
      walk_at "ss"
      exact hQ
    rw [List.nil_append, List.filter_eq_self.mpr (fun _ _ => rfl)]
    refine sort_w (α := Int × Int) sok_pair (by decide) ?_
    refine newF ?_
    rw [begO_w]
    walk_at "ss"
    have hE : ∀ j, j < runs.length → True := fun _ _ => trivial
    refine for_map (f := fun p : Int × Nat => W.tup [.int p.1, .int (p.2 : Int)]) (fun pre post s g3 => ∃ (L : List (List Int)) (as : List Addr) (o6 o7 o8 o9 o10 : Option W), (L, pre.map (·.2)) = dealS (fun j => (rn runs j).b) (fun j => (manyOf (wy tasks runs j) nm).toNat) (numT T nm).toNat runs.length pre ∧ Ext g g3 ∧ RowsH g g3 p L as ∧ g3 d = some (.lst ((pre.map (·.2)).map fun (k : Nat) => W.int (k : Int))) ∧ (∀ a ∈ as, a ≠ d) ∧
      s = [some (.ref h), some (.tup [.lv (runs.map WD.w), .lv (times.map WD.w)]), some (.str nm), some (.lv (runs.map WD.w)), some (.ref p), some (.ref d), o6, o7, o8, o9, o10, none, none, none]) ?_ ?_ ?_
    · refine ⟨_, as, none, none, none, none, none, rfl, X2.trans (Ext.new hd), R2.mono fun a o e _ => by rw [gup_ne (ne_free e hd)]; exact e, gup_same, fun a ha => ?_, rfl⟩
      obtain ⟨i, hi, ei⟩ := List.mem_iff_getElem.mp ha
      have := (R2.r i a (by rw [List.getElem?_eq_getElem hi, ei])).1
      exact ne_free this hd
    · rintro s g3 ⟨L, as, o6, o7, o8, o9, o10, eL, X3, R3, hd3, hda, rfl⟩
      refine ⟨trivial, ?_⟩
      walk_at "ss"
      rw [frzS_lst hd3]
      refine st_of rfl ?_
      walk_at "ss"
      refine .inl (hq p as _ (fun a o e => ?_) ?_)
      · rw [gdel_ne (fun z => by rw [z, hgd] at e; cases e)]
        exact X3 a o e
      · have eL1 : L = rowsD tasks runs T nm := congrArg Prod.fst eL
        rw [← eL1]
        refine ⟨by rw [gdel_ne hpd]; exact R3.l, R3.n, fun i a e => ?_, R3.fp⟩
        obtain ⟨h1, h2, h3⟩ := R3.r i a e
        exact ⟨by rw [gdel_ne (hda a (List.mem_of_getElem? e))]; exact h1, h2, h3⟩
    · rintro ⟨b, i⟩ pre post s g3 hx ⟨L, as, o6, o7, o8, o9, o10, eL, X3, R3, hd3, hda, rfl⟩ K hK
      obtain ⟨hi, hbi⟩ := begO_mem (show (b, i) ∈ begO (fun j => (rn runs j).a) runs.length by rw [hx]; simp)
      dsimp only at hi hbi
      have hprel : pre.length ≤ 24 := by have := congrArg List.length hx; rw [begO_len] at this; simp at this; omega
      have hLl : L.length = runs.length := by have := congrArg (fun z => z.1.length) eL; rw [deal_l] at this; exact this
      have hprm : ∀ j ∈ pre.map (·.2), j < runs.length := fun j hj => by
        obtain ⟨z, hz, rfl⟩ := List.mem_map.mp hj
        exact (begO_mem (show z ∈ begO (fun j => (rn runs j).a) runs.length by rw [hx]; simp [hz])).1
      have hLr : ∀ r ∈ L, r.length ≤ (numT T nm).toNat := fun r hr => by
        have e1 : L = (dealS (fun j => (rn runs j).b) (fun j => (manyOf (wy tasks runs j) nm).toNat) (numT T nm).toNat runs.length pre).1 := congrArg Prod.fst eL
        rw [e1] at hr
        exact (deal_rows r hr).1
      refine ⟨trivial, rfl, ?_⟩
      show svs _ _ _ _ [some (.ref h), some (.tup [.lv (runs.map WD.w), .lv (times.map WD.w)]), some (.str nm), some (.lv (runs.map WD.w)), some (.ref p), some (.ref d), some (.int b), some (.int (i : Int)), o8, o9, o10, none, none, none] _
      refine st_of rfl ?_
      walk_at "ss"
      intro hp2 hhp2
      have hdh : d ≠ hp2 := ne_free hd3 hhp2
      have hph : p ≠ hp2 := ne_free R3.l hhp2
      have hgh : g hp2 = none := ext_z X3 hhp2
      refine st_of rfl ?_
      walk_at "ss"
      rw [lstAt_of (by rw [gup_ne hdh]; exact hd3)]
      refine for_map (f := fun (k : Nat) => W.int (k : Int)) (fun pr po s g4 => ∃ (o9 : Option W), s = [some (.ref h), some (.tup [.lv (runs.map WD.w), .lv (times.map WD.w)]), some (.str nm), some (.lv (runs.map WD.w)), some (.ref p), some (.ref d), some (.int b), some (.int (i : Int)), some (.ref hp2), o9, o10, none, none, none] ∧ g4 = gup g3 hp2 (.lst ((hadOf (fun j => (rn runs j).b) b L pr).map W.int))) ⟨o9, rfl, rfl⟩ ?_ ?_
      · rintro s g4 ⟨o9, rfl, rfl⟩
        refine ⟨by rw [gup_ne hdh]; exact hd3, ?_⟩
        walk_at "ss"
        rw [gdel_gup hhp2]
        generalize hhad : hadOf (fun j => (rn runs j).b) b L (pre.map (·.2)) = had
        refine st_of rfl ?_
        walk_at "ss"
        refine attr_of (X3 _ _ hn) rfl ?_
        rw [ix_dic (X3 _ _ ht)]
        refine ⟨_, num_at hnm, ?_⟩
        walk_at "ss"
        obtain ⟨N, hN⟩ : ∃ N : Nat, numT T nm = (N : Int) := ⟨(numT T nm).toNat, by omega⟩
        rw [hN]
        refine ⟨small_len (by omega), ?_⟩
        rw [Int.toNat_natCast]
        refine lc_val (f := fun k : Nat => W.int (0 + (k : Nat))) (u := W.int) (c := fun k => decide ((k : Int) ∉ had)) (e := fun (k : Nat) => (k : Int)) (List.range N) [] (fun k hk Q hQ => ?_) (fun k hk _ Q hQ => ?_) (by simp; omega) (newF ?_)
        · walk_at "ss"
          rw [Int.zero_add]
          refine inS_w (α := Int) (x := (k : Int)) (xs := had) (by decide) ?_
          rw [xor_t, ← decide_not]
          exact ⟨_, rfl, hQ⟩
        · walk_at "ss"
          rw [Int.zero_add]
          exact hQ
        rw [List.nil_append]
        have ef : ((List.range N).filter fun (k : Nat) => decide ((k : Int) ∉ had)).map (fun (k : Nat) => (k : Int)) = freeOf N had := by
          unfold freeOf rngI
          rw [List.filter_map]
          rfl
        rw [ef]
        walk_at "ss"
        refine st_of rfl ?_
        walk_at "ss"
        refine c_wayrun hF (X3 _ _ hn) hi ?_
        refine c_manyof ?_
        walk_at "ss"
        obtain ⟨M, hM⟩ : ∃ M : Nat, manyOf (wy tasks runs i) nm = (M : Int) := ⟨(manyOf (wy tasks runs i) nm).toNat, by have := hm i; omega⟩
        rw [hM, cutW_to]
        intro b2 hb2
        have hpb : p ≠ b2 := ne_free R3.l hb2
        have hdb : d ≠ b2 := ne_free hd3 hb2
        have hgb : g b2 = none := ext_z X3 hb2
        have hil : i < as.length := by rw [R3.n, hLl]; exact hi
        refine (put_lst (by rw [gup_ne hpb]; exact R3.l)).mpr ⟨i, by rw [List.length_map]; exact ixN_n hil, ?_⟩
        refine st_of rfl ?_
        walk_at "ss"
        have hd5 : gup (gup g3 b2 (.lst (((freeOf N had).take M).map W.int))) p (.lst ((as.map W.ref).set i (.ref b2))) d = some (.lst ((pre.map (·.2)).map fun (k : Nat) => W.int (k : Int))) := by
          rw [gup_ne (Ne.symm hpd), gup_ne hdb]; exact hd3
        refine ⟨isLst_of hd5, ?_⟩
        refine app_m (f := fun (k : Nat) => W.int (k : Int)) (x := i) hd5 (by simp; omega) rfl ?_
        refine nl_of ?_
        refine hK _ _ ⟨L.set i ((freeOf N had).take M), as.set i b2, _, _, _, _, _, ?_, ?_, ?_, ?_, ?_, rfl⟩
        · rw [dealS_snoc, ← eL]
          unfold deal1
          simp only [List.map_append, List.map_cons, List.map_nil, hhad, hM, hN, Int.toNat_natCast]
        · intro a o e
          rw [gup_ne (fun z => by rw [z, hgd] at e; cases e), gup_ne (fun z => by rw [z, R3.fp] at e; cases e), gup_ne (fun z => by rw [z, hgb] at e; cases e)]
          exact X3 a o e
        · refine ⟨?_, by simp [R3.n], fun k a e => ?_, R3.fp⟩
          · rw [gup_ne hpd, gup_same, List.map_set]
          · rw [List.getElem?_set] at e
            by_cases c : i = k
            · subst c
              rw [if_pos rfl, if_pos hil] at e
              cases e
              refine ⟨?_, hgb, Ne.symm hpb⟩
              rw [gup_ne (Ne.symm hdb), gup_ne (Ne.symm hpb), gup_same, List.getElem?_set, if_pos rfl, if_pos (by rw [hLl]; exact hi)]
              rfl
            · rw [if_neg c] at e
              obtain ⟨h1, h2, h3⟩ := R3.r k a e
              refine ⟨?_, h2, h3⟩
              rw [gup_ne (hda a (List.mem_of_getElem? e)), gup_ne h3, gup_ne (ne_free h1 hb2), List.getElem?_set, if_neg c]
              exact h1
        · rw [gup_same]; simp
        · intro a ha
          rcases List.mem_or_eq_of_mem_set ha with ha | ha
          · exact hda a ha
          · rw [ha]; exact Ne.symm hdb
      · rintro j pr po s g4 hx4 ⟨o9, rfl, rfl⟩ K2 hK2
        have hj := hprm j (by rw [hx4]; simp)
        have hprl : pr.length ≤ 24 := by have := congrArg List.length hx4; simp at this; omega
        refine ⟨by rw [gup_ne hdh]; exact hd3, ?_⟩
        show svs _ _ _ _ [some (.ref h), some (.tup [.lv (runs.map WD.w), .lv (times.map WD.w)]), some (.str nm), some (.lv (runs.map WD.w)), some (.ref p), some (.ref d), some (.int b), some (.int (i : Int)), some (.ref hp2), some (.int (j : Int)), o10, none, none, none] _
        refine st_of rfl ?_
        walk_at "ss"
        refine ixR0 hj ?_
        walk_at "ss"
        have hsn := hadOf_snoc (E := fun j => (rn runs j).b) (b := b) (L := L) (ah := pr) (j := j)
        have hhl : (hadOf (fun j => (rn runs j).b) b L pr).length ≤ pr.length * 8 := hadOf_len fun r hr => by have := hLr r hr; omega
        by_cases c : b < (rn runs j).b
        · rw [if_pos c] at hsn ⊢
          refine st_of rfl ?_
          walk_at "ss"
          refine ⟨isLst_of gup_same, ?_⟩
          have hjl : j < as.length := by rw [R3.n, hLl]; exact hj
          have ej : as[j]? = some as[j] := List.getElem?_eq_getElem hjl
          obtain ⟨h1, h2, h3⟩ := R3.r j _ ej
          have ea : (as.map W.ref)[j]? = some (.ref as[j]) := by rw [List.getElem?_map, ej]; rfl
          rw [ixL (by rw [gup_ne hph]; exact R3.l)]
          refine ⟨_, by rw [atI_n]; exact ea, ?_⟩
          have hrow : ((L[j]?).getD []).length ≤ 8 := by
            cases e : L[j]? with
            | none => simp
            | some r => have := hLr r (List.mem_of_getElem? e); simp; omega
          have haj : as[j] ≠ hp2 := ne_free h1 hhp2
          refine (show extendS (.ref hp2) [.ref as[j]] _ _ from ?_)
          unfold extendS
          show lstAt _ _ _
          rw [lstAt_of gup_same, lstAt_of (by rw [gup_ne haj]; exact h1)]
          refine ⟨sl_le (by rw [List.length_map, List.length_map]; omega), ?_⟩
          rw [gup_gup, ← List.map_append]
          refine nl_of ?_
          dsimp only
          refine nl_of ?_
          exact hK2 _ _ ⟨_, rfl, by rw [hsn]⟩
        · rw [if_neg c] at hsn ⊢
          refine nl_of (CF := callF P gl (n + 2)) (gl := gl) ?_
          exact hK2 _ _ ⟨_, rfl, by rw [hsn, List.append_nil]⟩
  · rintro y rest acc g1 ⟨X1, as, rfl, hl, has⟩ K hK
    refine ⟨trivial, ?_⟩
    walk_at "ss"
    intro a ha
    refine ⟨small_line (by rw [List.length_map]; simp at hl; omega), hK _ _ ⟨X1.trans (Ext.new ha), as ++ [a], by simp, by simp at hl ⊢; omega, fun z hz => ?_⟩⟩
    rcases List.mem_append.mp hz with hz | hz
    · obtain ⟨h1, h2⟩ := has z hz
      exact ⟨by rw [gup_ne (ne_free h1 ha)]; exact h1, h2⟩
    · rw [List.mem_singleton.mp hz]; exact ⟨gup_same, ext_z X1 ha⟩
end
def kU (kvs : List (Str × Addr)) : List (Key × W) := kvs.map fun e => (.inr e.1, .ref e.2)
theorem kU_get {kvs : List (Str × Addr)} {nm : Str} : dGet (kU kvs) (.inr nm) = (dGet kvs nm).map W.ref := by
  induction kvs with
  | nil => rfl
  | cons e kvs ih =>
    show dGet ((Sum.inr e.1, W.ref e.2) :: kU kvs) (.inr nm) = _
    rw [dGet_cons, dGet_cons, ih]
    by_cases c : e.1 = nm
    · rw [if_pos c, if_pos (by rw [c])]; rfl
    · rw [if_neg c, if_neg (fun z => c (Sum.inr.inj z))]
theorem kU_new {kvs : List (Str × Addr)} {nm : Str} {a : Addr} (h : dGet kvs nm = none) : dPut (kU kvs) (.inr nm) (.ref a) = kU (kvs ++ [(nm, a)]) := by
  unfold dPut
  rw [any_dGet, kU_get, h, Option.map_none, Option.isSome_none, if_neg (by decide)]
  simp [kU]
theorem dGet_none {κ α : Type} [DecidableEq κ] {l : List (κ × α)} {k : κ} (h : k ∉ l.map (·.1)) : dGet l k = none := by
  cases e : dGet l k with
  | none => rfl
  | some v => exact absurd (List.mem_map.mpr ⟨_, dGet_mem e, rfl⟩) h
theorem dGet_nd {κ α : Type} [DecidableEq κ] : ∀ {l : List (κ × α)} {e : κ × α}, (l.map (·.1)).Nodup → e ∈ l → dGet l e.1 = some e.2
  | [], _, _, h => by cases h
  | p :: l, e, nd, h => by
    rw [List.map_cons, List.nodup_cons] at nd
    rw [dGet_cons]
    rcases List.mem_cons.mp h with rfl | h
    · rw [if_pos rfl]
    · rw [if_neg (fun z => nd.1 (by rw [z]; exact List.mem_map.mpr ⟨e, h, rfl⟩))]
      exact dGet_nd nd.2 h
structure Told (g0 g : G) (d : Addr) (names : List Str) (R : Str → List (List Int)) : Prop where
  fd : g0 d = none
  ex : ∃ kvs : List (Str × Addr), g d = some (.dic false (kU kvs)) ∧ kvs.map (·.1) = names ∧ (kvs.map (·.2)).Nodup ∧ ∀ e ∈ kvs, e.2 ≠ d ∧ ∃ as, RowsH g0 g e.2 (R e.1) as ∧ ∀ a ∈ as, a ≠ d ∧ ∀ e' ∈ kvs, a ≠ e'.2
section
variable {g : G} {x : XK3} {q : VK3} {n : Nat} {h tp : Addr} {tasks : List (List Way)} {A : List ArcT} {prs : List (Int × Int)} {m : Int} {T : List (Str × Int)} {runs : List Run} {times : List Int}
theorem c_roster (hT : ToolOk T) {S : List Int} (N : NetA g h tp tasks A prs m T runs times S) (hm : ∀ nm k, 0 ≤ manyOf (wy tasks runs k) nm)
    (hx : brA tasks A prs T runs times S ≠ [] → x 0 [] g) (hq : brA tasks A prs T runs times S = [] → ∀ d g', Ext g g' → Told g g' d (T.map (·.1)) (rowsD tasks runs T) → q (.ref d) g') : callF P gl (n + 6) 15 [.ref h, planW runs times] g x q := by
  refine u15 ?_
  show svs _ _ _ _ [some (.ref h), some (.tup [.lv (runs.map WD.w), .lv (times.map WD.w)]), none, none] g
  refine st_of rfl ?_
  walk_at "ss"
  refine c_fitsA N ?_
  walk_at "ss"
  by_cases c : brA tasks A prs T runs times S = []
  · rw [if_neg (fun z => z c)]
    refine nl_of (CF := callF P gl (n + 5)) (gl := gl) ?_
    refine st_of rfl ?_
    walk_at "ss"
    intro d hd
    have ht1 : gup g d (.dic false []) tp = some (.dic false (toolK T)) := by rw [gup_ne (ne_free N.t hd)]; exact N.t
    have hn1 : gup g d (.dic false []) h = some (.ins cN (netF tp tasks A prs m)) := by rw [gup_ne (ne_free N.n hd)]; exact N.n
    have hdt : tp ≠ d := ne_free N.t hd
    refine st_of rfl ?_
    walk_at "ss"
    refine attr_of hn1 rfl ?_
    rw [keys_dic ht1]
    have ek : (toolK T).map (fun p => kW p.1) = (T.map (·.1)).map W.str := by simp [toolK, kW, Function.comp_def]
    rw [ek]
    have hth : tp ≠ h := fun z => by have := N.n; rw [← z, N.t] at this; cases this
    refine for_map (fun pre post σ g' => ∃ o3 g1, g' = gup g1 tp (.dic true (toolK T)) ∧ Ext g g1 ∧ Told g g1 d pre (rowsD tasks runs T) ∧ σ = [some (.ref h), some (.tup [.lv (runs.map WD.w), .lv (times.map WD.w)]), some (.ref d), o3]) ⟨none, _, rfl, Ext.new hd, ⟨hd, ⟨[], gup_same, rfl, by simp, by simp⟩⟩, rfl⟩ ?_ ?_
    · rintro σ g' ⟨o3, g1, rfl, X1, T1, rfl⟩
      refine ⟨gup_same, .inr ⟨tp, fun z => ?_, .inl ⟨toolK T, gup_same⟩, ?_⟩⟩
      · rcases z with ⟨_, z⟩ | ⟨_, z⟩ <;> (rw [ht1] at z; cases z)
      · rw [unl_dic gup_same, gup_gup, gup_eta (X1 _ _ N.t)]
        refine st_of rfl ?_
        walk_at "ss"
        exact .inl (hq c d g1 X1 T1)
    · rintro nm pre post σ g' hx2 ⟨o3, g1, rfl, X1, T1, rfl⟩ K hK
      refine ⟨gup_same, ?_⟩
      show svs _ _ _ _ [some (.ref h), some (.tup [.lv (runs.map WD.w), .lv (times.map WD.w)]), some (.ref d), some (.str nm)] _
      have hnm : nm ∈ T.map (·.1) := by rw [hx2]; simp
      have hn2 : gup g1 tp (.dic true (toolK T)) h = some (.ins cN (netF tp tasks A prs m)) := by rw [gup_ne (Ne.symm hth)]; exact X1 _ _ N.n
      refine st_of rfl ?_
      walk_at "ss"
      refine c_pieces N.F N.lr hn2 gup_same (hm nm) hnm (num_b hT hnm) fun p as g2 X2 R2 => ?_
      walk_at "ss"
      obtain ⟨kvs, e1, e2, ena, e3⟩ := T1.ex
      have hd2 : g2 d = some (.dic false (kU kvs)) := X2 _ _ (by rw [gup_ne (Ne.symm hdt)]; exact e1)
      have hnd : nm ∉ pre := by
        have nd := hT.nd
        rw [hx2] at nd
        exact fun z => (List.nodup_append.mp nd).2.2 nm z nm List.mem_cons_self rfl
      have hpd : p ≠ d := fun z => by have := R2.fp; rw [z, gup_ne (Ne.symm hdt), e1] at this; cases this
      have hlen : kvs.length ≤ 12 := by
        have h1 := congrArg List.length e2
        have h2 := congrArg List.length hx2
        have := N.lT
        simp at h1 h2
        omega
      simp only [putS, hd2, toKey]
      refine ⟨small_line (by simp [kU]; omega), ?_⟩
      rw [kU_new (dGet_none (by rw [e2]; exact hnd))]
      refine nl_of ?_
      have hg2tp : g2 tp = some (.dic true (toolK T)) := X2 _ _ gup_same
      have hpt : p ≠ tp := fun z => by have := R2.l; rw [z, hg2tp] at this; cases this
      refine hK _ _ ⟨_, gup (gup g2 tp (.dic false (toolK T))) d (.dic false (kU (kvs ++ [(nm, p)]))), ?_, ?_, ⟨hd, ⟨_, gup_same, by simp [e2], ?_, ?_⟩⟩, rfl⟩
      · rw [gup_comm hdt, gup_gup, gup_comm (Ne.symm hdt), gup_eta hg2tp]
      · intro a o e
        have had : a ≠ d := fun z => by rw [z, hd] at e; cases e
        rw [gup_ne had]
        by_cases z : a = tp
        · rw [z, N.t] at e; cases e; rw [z, gup_same]
        · rw [gup_ne z]
          exact X2 _ _ (by rw [gup_ne z]; exact X1 _ _ e)
      · rw [List.map_append]
        refine List.nodup_append.mpr ⟨ena, by simp, fun a ha b hb z => ?_⟩
        rw [List.mem_singleton.mp (show b ∈ [p] from hb)] at z
        obtain ⟨e, he, rfl⟩ := List.mem_map.mp ha
        obtain ⟨_, as2, h2, _⟩ := e3 e he
        have l1 := h2.l
        have := R2.fp
        rw [← z, gup_ne (fun z => by rw [z, X1 _ _ N.t] at l1; cases l1), l1] at this
        cases this
      · intro e he
        have keep : ∀ a o, g2 a = some o → a ≠ d → a ≠ tp → gup (gup g2 tp (.dic false (toolK T))) d (.dic false (kU (kvs ++ [(nm, p)]))) a = some o := fun a o h1 h2 h3 => by rw [gup_ne h2, gup_ne h3]; exact h1
        have notp : ∀ {a : Addr} {xs : List W}, g2 a = some (.lst xs) → a ≠ tp ∧ a ≠ d := fun {a xs} h1 => ⟨(fun z => by rw [z, hg2tp] at h1; cases h1), (fun z => by rw [z, hd2] at h1; cases h1)⟩
        have free0 : ∀ {a : Addr}, gup g1 tp (.dic true (toolK T)) a = none → g a = none := fun {a} h1 => by
          have : a ≠ tp := fun z => by rw [z, gup_same] at h1; cases h1
          rw [gup_ne this] at h1
          exact ext_z X1 h1
        rcases List.mem_append.mp he with he | he
        · obtain ⟨h1, as2, h2, h3⟩ := e3 e he
          refine ⟨h1, as2, ⟨?_, h2.n, fun i a ea => ?_, h2.fp⟩, fun a ha => ⟨(h3 a ha).1, fun e' he' => ?_⟩⟩
          rotate_left
          rotate_left
          · rcases List.mem_append.mp he' with he' | he'
            · exact (h3 a ha).2 e' he'
            · rw [List.mem_singleton.mp he']
              obtain ⟨i, hi, ei⟩ := List.mem_iff_getElem.mp ha
              have k1 := (h2.r i a (by rw [List.getElem?_eq_getElem hi, ei])).1
              intro z
              have := R2.fp
              rw [show p = a from z.symm, gup_ne (fun z => by rw [z, X1 _ _ N.t] at k1; cases k1), k1] at this
              cases this
          · have l1 : g2 e.2 = some (.lst (as2.map W.ref)) := X2 _ _ (by rw [gup_ne (fun z => by have := h2.l; rw [z, X1 _ _ N.t] at this; cases this)]; exact h2.l)
            exact keep _ _ l1 (notp l1).2 (notp l1).1
          · obtain ⟨k1, k2, k3⟩ := h2.r i a ea
            have l1 := X2 _ _ (show gup g1 tp (.dic true (toolK T)) a = _ by rw [gup_ne (fun z => by rw [z, X1 _ _ N.t] at k1; cases k1)]; exact k1)
            exact ⟨keep _ _ l1 (notp l1).2 (notp l1).1, k2, k3⟩
        · rw [List.mem_singleton.mp he]
          refine ⟨hpd, as, ⟨keep _ _ R2.l hpd hpt, R2.n, fun i a ea => ?_, free0 R2.fp⟩, fun a ha => ?_⟩
          · obtain ⟨k1, k2, k3⟩ := R2.r i a ea
            exact ⟨keep _ _ k1 (notp k1).2 (notp k1).1, free0 k2, k3⟩
          · obtain ⟨i, hi, ei⟩ := List.mem_iff_getElem.mp ha
            obtain ⟨k1, k2, k3⟩ := R2.r i a (by rw [List.getElem?_eq_getElem hi, ei])
            refine ⟨(notp k1).2, fun e' he' => ?_⟩
            rcases List.mem_append.mp he' with he' | he'
            · obtain ⟨_, as2, h2, _⟩ := e3 e' he'
              intro z
              have l1 := h2.l
              rw [z, gup_ne (fun z => by rw [z, X1 _ _ N.t] at l1; cases l1), l1] at k2
              cases k2
            · rw [List.mem_singleton.mp he']; exact k3
  · rw [if_pos c]
    refine st_of rfl ?_
    walk_at "ss"
    first | exact .inl (hx c) | exact hx c
def dueK (names : List Str) (R : Str → List (List Int)) : List (Key × W) := names.map fun nm => (.inr nm, .lv ((R nm).map fun r => .lv (r.map W.int)))
theorem dueK_get {names : List Str} {R : Str → List (List Int)} {nm : Str} (h : nm ∈ names) : dGet (dueK names R) (.inr nm) = some (.lv ((R nm).map fun r => .lv (r.map W.int))) := by
  induction names with
  | nil => cases h
  | cons z names ih =>
    show dGet ((Sum.inr z, _) :: dueK names R) (.inr nm) = _
    rw [dGet_cons]
    by_cases c : z = nm
    · subst c; rw [if_pos rfl]
    · rw [if_neg (fun e => c (Sum.inr.inj e))]
      exact ih ((List.mem_cons.mp h).resolve_left (Ne.symm c))
theorem deq_told {g0 : G} {d e : Addr} {names : List Str} {R : Str → List (List Int)} (nd : names.Nodup) (ht : Told g0 g d names R) (he : g e = some (.dic false (dueK names R))) (hq : q (.bl true) g) : deqS false (.ref d) (.ref e) g q := by
  obtain ⟨kvs, e1, e2, ena, e3⟩ := ht.ex
  simp only [deqS, e1, he]
  refine ⟨10, fun _ => true, by decide, fun k v y hk hy => ?_, ?_⟩
  · obtain ⟨p, hp, e4⟩ := List.mem_map.mp hk
    cases e4
    obtain ⟨h1, as, h2, h3⟩ := e3 p hp
    have hnm : p.1 ∈ names := by rw [← e2]; exact List.mem_map.mpr ⟨p, hp, rfl⟩
    rw [dueK_get hnm] at hy
    cases hy
    have d1 : HW g (.ref p.2) (R p.1) := by
      refine hw_lst h2.l (by rw [List.length_map]; exact h2.n) fun i w r e5 e6 => ?_
      rw [List.getElem?_map, Option.map_eq_some_iff] at e5
      obtain ⟨a, ea, rfl⟩ := e5
      have := (h2.r i a ea).1
      rw [e6] at this
      exact hw_lstM (f := W.int) this fun _ _ => hw_int
    have d2 : HW g (.lv ((R p.1).map fun r => .lv (r.map W.int))) (R p.1) := WD.hw g (R p.1)
    have := EqW.data (n := 10) d1 d2 (Datum.plain _) (Datum.plain _) (Nat.le_trans (Datum.depth_le _) (by decide))
    rw [Datum.eqv, decide_eq_true rfl] at this
    exact this
  · have : dEq (kU kvs) (dueK names R) (fun _ => true) = true := by
      unfold dEq
      rw [Bool.and_eq_true]
      refine ⟨by simp [kU, dueK, ← e2], ?_⟩
      rw [List.all_eq_true]
      intro p hp
      obtain ⟨z, hz, rfl⟩ := List.mem_map.mp hp
      rw [dueK_get (by rw [← e2]; exact List.mem_map.mpr ⟨z, hz, rfl⟩)]
      rfl
    rw [this]
    simpa using hq
theorem c_told {g0 : G} {d e : Addr} {names : List Str} {R : Str → List (List Int)} (nd : names.Nodup) (hl : names.length ≤ 12) (hR : ∀ nm, (R nm).length ≤ 24 ∧ ∀ r ∈ R nm, r.length ≤ 8) (ht : Told g0 g d names R) (he : g e = some (.dic false (dueK names R))) (hg0 : g0 e = some (.dic false (dueK names R))) (hq : q (.bl true) g) : callF P gl (n + 2) 31 [.ref d, .ref e] g x q := by
  refine u31 ?_
  obtain ⟨kvs, e1, e2, ena, e3⟩ := ht.ex
  have hde : d ≠ e := fun z => by have := ht.fd; rw [z, hg0] at this; cases this
  refine st_of rfl ?_
  walk_at "ss"
  rw [isiS_dic e1]
  walk_at "ss"
  rw [len_dic e1]
  walk_at "ss"
  rw [len_dic he]
  walk_at "ss"
  have el : (kU kvs).length = (dueK names R).length := by simp [kU, dueK, ← e2]
  rw [el]
  (try rw [if_neg (by simp)])
  refine nl_of (CF := callF P gl (n + 1)) (gl := gl) ?_
  refine st_of rfl ?_
  walk_at "ss"
  rw [keys_dic he]
  have ek : (dueK names R).map (fun p => kW p.1) = names.map W.str := by simp [dueK, kW, Function.comp_def]
  rw [ek]
  refine for_map (fun pre post σ g' => ∃ o2 o3 o4, g' = gup g e (.dic true (dueK names R)) ∧ σ = [some (.ref d), some (.ref e), o2, o3, o4, none]) ⟨none, none, none, rfl, rfl⟩ ?_ ?_
  · rintro σ g' ⟨o2, o3, o4, rfl, rfl⟩
    refine ⟨gup_same, un_back he ?_⟩
    refine st_of rfl ?_
    walk_at "ss"
    refine deq_told nd ht he ?_
    first | exact rt_keep hq | exact hq
  · rintro nm pre post σ g' hx2 ⟨o2, o3, o4, rfl, rfl⟩ K hK
    have hnm : nm ∈ names := by rw [hx2]; simp
    obtain ⟨z, hz, ez⟩ := List.mem_map.mp (show nm ∈ kvs.map (·.1) by rw [e2]; exact hnm)
    obtain ⟨nm', p⟩ := z
    dsimp only at ez
    subst ez
    obtain ⟨h1, as, h2, h3⟩ := e3 _ hz
    dsimp only at h1 h2
    have hge : ∀ {a : Addr} {xs : List W}, g a = some (.lst xs) → gup g e (.dic true (dueK names R)) a = some (.lst xs) := fun {a xs} k => by
      rw [gup_ne (fun z => by rw [z, he] at k; cases k)]; exact k
    have hgd : gup g e (.dic true (dueK names R)) d = some (.dic false (kU kvs)) := by rw [gup_ne hde]; exact e1
    have hkg : dGet (kU kvs) (.inr nm') = some (.ref p) := by
      rw [kU_get]
      have := dGet_nd (by rw [e2]; exact nd) hz
      rw [this]; rfl
    obtain ⟨hR1, hR2⟩ := hR nm'
    refine ⟨gup_same, ?_⟩
    show svs _ _ _ _ [some (.ref d), some (.ref e), some (.str nm'), o3, o4, none] _
    refine st_of rfl ?_
    walk_at "ss"
    rw [in_dic hgd, hkg]
    walk_at "ss"
    rw [ix_dic hgd]
    refine ⟨_, hkg, ?_⟩
    rw [isiS_lst (hge h2.l)]
    walk_at "ss"
    rw [ix_dic hgd]
    refine ⟨_, hkg, ?_⟩
    rw [lenL (hge h2.l)]
    rw [ix_dic gup_same]
    refine ⟨_, dueK_get hnm, ?_⟩
    walk_at "ss"
    rw [List.length_map, List.length_map, h2.n]
    (try rw [if_neg (by simp)])
    refine nl_of (CF := callF P gl (n + 1)) (gl := gl) ?_
    refine st_of rfl ?_
    walk_at "ss"
    rw [ix_dic gup_same]
    refine ⟨_, dueK_get hnm, ?_⟩
    walk_at "ss"
    rw [List.length_map]
    refine ⟨small_len (by omega), ?_⟩
    rw [Int.toNat_natCast]
    refine for_rng (fun k σ g3 => ∃ o3 o4, g3 = gup g e (.dic true (dueK names R)) ∧ σ = [some (.ref d), some (.ref e), some (.str nm'), o3, o4, none]) ⟨o3, o4, rfl, rfl⟩ ?_ ?_
    · rintro σ g3 ⟨o3, o4, rfl, rfl⟩
      refine ⟨trivial, ?_⟩
      refine nl_of (CF := callF P gl (n + 1)) (gl := gl) ?_
      exact hK _ _ ⟨_, _, _, rfl, rfl⟩
    · rintro k σ g3 hk ⟨o3, o4, rfl, rfl⟩ K2 hK2
      refine ⟨trivial, ?_⟩
      show svs _ _ _ _ [some (.ref d), some (.ref e), some (.str nm'), some (.int (0 + (k : Nat))), o4, none] _
      rw [Int.zero_add]
      have hkl : k < as.length := by rw [h2.n]; exact hk
      have ea : as[k]? = some as[k] := List.getElem?_eq_getElem hkl
      obtain ⟨k1, k2, k3⟩ := h2.r k _ ea
      have hrl : (((R nm')[k]?).getD []).length ≤ 8 := by
        rw [List.getElem?_eq_getElem hk]
        exact hR2 _ (List.getElem_mem hk)
      generalize ((R nm')[k]?).getD [] = row at *
      generalize as[k] = a at *
      refine st_of rfl ?_
      walk_at "ss"
      rw [ix_dic hgd]
      refine ⟨_, hkg, ?_⟩
      rw [ixL (hge h2.l)]
      refine ⟨.ref a, by rw [atI_n, List.getElem?_map, ea]; rfl, ?_⟩
      refine st_of rfl ?_
      walk_at "ss"
      rw [isiS_lst (hge k1)]
      walk_at "ss"
      rw [lstAt_of (hge k1)]
      refine lc_pure (f := W.int) (c := fun _ => false) (e := fun i => W.int i) (hge k1) row [] (fun i _ Q hQ => ?_) (fun i _ z => by cases z) (by simp; omega) ?_
      · walk_at "ss"
        refine c_whole ?_
        walk_at "ss"
        exact hQ
      rw [List.filter_eq_nil_iff.mpr (by simp)]
      refine newF ?_
      walk_at "ss"
      refine eqS_w (α := List Int) (x := []) (y := []) (by decide) ?_
      walk_at "ss"
      refine nl_of (CF := callF P gl (n + 1)) (gl := gl) ?_
      exact hK2 _ _ ⟨_, _, rfl, rfl⟩
end
abbrev Pd := PySem.W.T3 Int Int (List Use)
structure UsesH (T : List (Str × Int)) (U : List Use) : Prop where
  nd : (U.map (·.a)).Nodup
  u : ∀ u ∈ U, UseOk T u ∧ u.c = 3
  l : U.length ≤ 3
section
variable {g : G} {x : XK3} {q : VK3} {n : Nat}
theorem c_tools58 {xs : List Int} (hx : Drawn xs 4) (hq : ∀ (T : List (Str × Int)) (p : Addr), ToolOk T → T.length ≤ 3 → g p = none → q (.ref p) (gup g p (.dic false (toolK T)))) : callF P gl (n + 1) 25 [.lv (xs.map W.int)] g x q := by
  have gt : ∀ k, k < 4 → ∃ z, xs[k]? = some z ∧ 0 ≤ z ∧ z < 2147483629 := fun k hk => ⟨_, get_lt (by rw [hx.1]; exact hk), hx.2 _ (List.getElem_mem _)⟩
  refine u25 ?_
  refine st_of rfl ?_
  walk_at "ss"
  intro p hp
  refine st_of rfl ?_
  walk_at "ss"
  obtain ⟨z3, e3, _⟩ := gt 3 (by decide)
  refine ixV_m (f := W.int) (k := 3) e3 ?_
  walk_at "ss"
  by_cases c8 : (z3.fdiv 3).fmod 8 = 1
  · rw [if_pos c8]
    refine st_of rfl ?_
    walk_at "ss"
    exact rt_keep (hq [] p ToolOk.nil (by simp) hp)
  rw [if_neg c8]
  refine nl_of (CF := callF P gl n) (gl := gl) ?_
  refine st_of rfl ?_
  walk_at "ss"
  refine ixV_m (f := W.int) (k := 3) e3 ?_
  walk_at "ss"
  obtain ⟨m, hm, em⟩ := mod_nat z3 (m := 3) (by decide)
  rw [show z3.fmod 3 = (m : Int) from em, show (1 : Int) + (m : Int) = ((1 + m : Nat) : Int) by omega]
  refine ⟨small_len (by omega), ?_⟩
  rw [Int.toNat_natCast]
  refine for_rng (fun k s g' => ∃ T o2 o3 o4, ToolOk T ∧ T.length ≤ k ∧ s = [some (.lv (xs.map W.int)), some (.ref p), o2, o3, o4] ∧ g' = gup g p (.dic false (toolK T))) ⟨[], none, none, none, ToolOk.nil, Nat.le_refl _, rfl, rfl⟩ ?_ ?_
  · rintro s g' ⟨T, o2, o3, o4, hT, hl, rfl, rfl⟩
    refine ⟨trivial, ?_⟩
    refine st_of rfl ?_
    walk_at "ss"
    exact rt_keep (hq T p hT (by omega) hp)
  · rintro k s g' hk ⟨T, o2, o3, o4, hT, hl, rfl, rfl⟩ K hK
    refine ⟨trivial, ?_⟩
    obtain ⟨z, e, z0, z1⟩ := gt k (by omega)
    show svs _ _ _ _ [some (.lv (xs.map W.int)), some (.ref p), some (.int (0 + (k : Int))), o3, o4] _
    simp only [Int.zero_add]
    refine st_of rfl ?_
    walk_at "ss"
    refine ixV_m (f := W.int) (k := k) e ?_
    walk_at "ss"
    obtain ⟨a, ha, ea⟩ := mod_nat z (m := 2) (by decide)
    rw [show z.fmod 2 = (a : Int) from ea]
    obtain ⟨c, ec⟩ : ∃ c, (tls (Str.ofString "az"))[a]? = some c := by
      match a, ha with
      | 0, _ => exact ⟨_, rfl⟩
      | 1, _ => exact ⟨_, rfl⟩
    refine ix_str (by decide +kernel) ec ?_
    refine ixV_m (f := W.int) (k := k) e ?_
    walk_at "ss"
    obtain ⟨b, hb, eb⟩ := mod_nat (z.fdiv 2) (m := 11) (by decide)
    rw [show (z.fdiv 2).fmod 11 = (b : Int) from eb]
    have hl1 : (repS ⟨#[c]⟩ b).length ≤ 11 := by rw [repS_len]; show b * 1 ≤ 11; omega
    refine ⟨by omega, by omega, by rw [Int.toNat_natCast]; show 1 * b ≤ _; omega, ?_⟩
    rw [Int.toNat_natCast]
    generalize repS ⟨#[c]⟩ b = word at *
    refine st_of rfl ?_
    walk_at "ss"
    refine ixV_m (f := W.int) (k := k) e ?_
    walk_at "ss"
    rw [show ((word.length : Nat) : Int) + 1 = ((word.length + 1 : Nat) : Int) by simp]
    refine ⟨sl_le (by omega), ?_⟩
    refine mod_of (j := ((word.length + 1 : Nat) : Int)) (by omega) ?_
    obtain ⟨d, hd, ed⟩ := mod_nat (z.fdiv 32) (m := word.length + 1) (by omega)
    rw [ed]
    refine st_of rfl ?_
    walk_at "ss"
    refine ixV_m (f := W.int) (k := k) e ?_
    walk_at "ss"
    obtain ⟨v, hv, ev⟩ := mod_nat (z.fdiv 512) (m := 8) (by decide)
    rw [show (z.fdiv 512).fmod 8 = (v : Int) from ev]
    have hv2 : 1 ≤ 1 + (v : Int) ∧ 1 + (v : Int) ≤ 8 := by omega
    generalize 1 + (v : Int) = v2 at *
    refine ⟨sl_le (by omega), ?_⟩
    obtain ⟨c2, ec2⟩ : ∃ c, (tls (Str.ofString "mfs"))[k]? = some c := by
      match k, (show k < 3 by omega) with
      | 0, _ => exact ⟨_, rfl⟩
      | 1, _ => exact ⟨_, rfl⟩
      | 2, _ => exact ⟨_, rfl⟩
    refine ix_str (by decide +kernel) ec2 ?_
    have l1 := L2.cutS_length word none (some (d : Int))
    have l2 := L2.cutS_length word (some (d : Int)) none
    have l3 : (⟨#[c2]⟩ : Str).length = 1 := rfl
    walk_at "ss"
    refine ⟨sl_le (by omega), ?_⟩
    walk_at "ss"
    refine ⟨sl_le (by omega), ?_⟩
    walk_at "ss"
    refine ⟨sl_le (by rw [PySem.Str.length_append]; omega), ?_⟩
    generalize L2.cutS word none (some (d : Int)) ++ ⟨#[c2]⟩ ++ L2.cutS word (some (d : Int)) none = nm
    try walk_at "ss"
    refine put_tool gup_same (by omega) ?_
    rw [gup_gup]
    walk_at "nl"
    exact hK _ _ ⟨dPut T nm v2, _, _, _, hT.put (by omega), Nat.le_trans dPut_len (by omega), rfl, rfl⟩
theorem list_tools {a : Addr} {T : List (Str × Int)} {q : VK3} (h : g a = some (.dic false (toolK T))) (hq : newL g ((T.map (·.1)).map W.str) q) : listS [.ref a] g q := by
  simp only [listS, h]
  have e : (toolK T).map (fun p => kW p.1) = (T.map (·.1)).map W.str := by simp [toolK, kW, Function.comp_def]
  rw [e]; exact hq
theorem c_uses58 {T : List (Str × Int)} (hT : ToolOk T) (hl : T.length ≤ 3) {xs : List Int} (hx : 4 ≤ xs.length) {td : Addr} (ht : g td = some (.dic false (toolK T))) (hq : ∀ U : List Use, UsesH T U → q (.lv (U.map WD.w)) g) : callF P gl (n + 1) 26 [.lv (xs.map W.int), .ref td] g x q := by
  have gt : ∀ k, k < 4 → ∃ z, xs[k]? = some z := fun k hk => ⟨_, get_lt (by omega)⟩
  obtain ⟨z3, e3⟩ := gt 3 (by decide)
  refine u26 ?_
  refine st_of rfl ?_
  walk_at "ss"
  intro p hp
  have ht2 : ∀ o, gup g p o td = some (.dic false (toolK T)) := fun o => by rw [gup_ne (ne_free ht hp)]; exact ht
  refine st_of rfl ?_
  walk_at "ss"
  refine list_tools (ht2 _) (newF ?_)
  have hnl : (T.map (·.1)).length ≤ 3 := by simpa using hl
  have hnd := hT.nd
  have hin : ∀ nm ∈ T.map (·.1), dGet (toolK T) (.inr nm) = some (.int (numT T nm)) ∧ 1 ≤ numT T nm ∧ numT T nm ≤ 8 := fun nm h => ⟨num_at h, num_b hT h⟩
  have fin : ∀ (V U : List Use), (U.map (·.a)).Nodup → (∀ u ∈ U, UseOk T u ∧ u.c = 3) → U.length ≤ 3 → V = U ∨ V = U.reverse → q (.lv (V.map WD.w)) g := fun V U h1 h2 h3 h4 => by
    refine hq V ?_
    rcases h4 with rfl | rfl
    · exact ⟨h1, h2, h3⟩
    · exact ⟨by rw [List.map_reverse]; exact (List.reverse_perm _).nodup_iff.mpr h1, fun u hu => h2 u (List.mem_reverse.mp hu), by simpa using h3⟩
  generalize hN : T.map (·.1) = names at *
  refine st_of rfl ?_
  walk_at "ss"
  refine ⟨small_len (by simp; omega), ?_⟩
  rw [Int.toNat_natCast, List.length_map]
  refine for_rng (fun k s g' => ∃ (U : List Use) (o4 : Option W), U.length ≤ k ∧ (U.map (·.a)).Nodup ∧ (∀ u ∈ U, UseOk T u ∧ u.c = 3 ∧ ∃ j : Nat, j < k ∧ names[j]? = some u.a) ∧ s = [some (.lv (xs.map W.int)), some (.ref td), some (.ref p), some (.lv (names.map W.str)), o4] ∧ g' = gup g p (.lst (U.map WD.w))) ⟨[], none, Nat.le_refl _, by simp, by simp, rfl, rfl⟩ ?_ ?_
  · rintro s g' ⟨U, o4, hU, hnu, hu, rfl, rfl⟩
    refine ⟨trivial, ?_⟩
    walk_at "ss"
    rw [gdel_gup hp]
    have fin := fun V => fin V U hnu (fun u h => ⟨(hu u h).1, (hu u h).2.1⟩) (by omega)
    refine st_of rfl ?_
    walk_at "ss"
    refine ixV_m (f := W.int) (k := 3) e3 ?_
    walk_at "ss"
    by_cases c : z3.fmod 2 = 1
    · rw [if_pos c]
      refine st_of rfl ?_
      walk_at "ss"
      simp only [revS]
      rw [← List.map_reverse]
      intro p2 hp2
      refine nl_of (CF := callF P gl n) (gl := gl) ?_
      refine st_of rfl ?_
      walk_at "ss"
      rw [gdel_gup hp2]
      exact rt_keep (fin U.reverse (.inr rfl))
    · rw [if_neg c]
      refine nl_of (CF := callF P gl n) (gl := gl) ?_
      refine st_of rfl ?_
      walk_at "ss"
      first | exact fin U (.inl rfl) | exact rt_keep (fin U (.inl rfl))
  · rintro k s g' hk ⟨U, o4, hU, hnu, hu, rfl, rfl⟩ K hK
    refine ⟨trivial, ?_⟩
    have hnm := List.getElem?_eq_getElem hk
    generalize names[k] = nm at *
    obtain ⟨hg, hb1, hb2⟩ := hin nm (List.mem_of_getElem? hnm)
    obtain ⟨z, e⟩ := gt k (by omega)
    show svs _ _ _ _ [some (.lv (xs.map W.int)), some (.ref td), some (.ref p), some (.lv (names.map W.str)), some (.int (0 + (k : Int)))] _
    simp only [Int.zero_add]
    refine st_of rfl ?_
    walk_at "ss"
    refine ixV_m (f := W.int) e ?_
    walk_at "ss"
    by_cases c : ¬ z.fmod 2 = 1
    · rw [if_neg c]
      refine nl_of (CF := callF P gl n) (gl := gl) ?_
      refine hK _ _ ⟨U, _, by omega, hnu, fun u h => ?_, rfl, rfl⟩
      obtain ⟨h1, h3, j, j1, j2⟩ := hu u h
      exact ⟨h1, h3, j, by omega, j2⟩
    · rw [if_pos (Decidable.not_not.mp c)]
      refine st_of rfl ?_
      walk_at "ss"
      refine ⟨isLst_of gup_same, ?_⟩
      refine ixV_m (f := W.str) hnm ?_
      refine ixV_m (f := W.int) e ?_
      walk_at "ss"
      refine ixV_m (f := W.str) hnm ?_
      rw [ix_dic (ht2 _)]
      refine ⟨_, hg, ?_⟩
      refine mod_of (by omega) ?_
      walk_at "ss"
      have w1 := Int.fmod_nonneg_of_pos (z.fdiv 2) (show 0 < numT T nm by omega)
      have w2 := Int.fmod_lt_of_pos (z.fdiv 2) (show 0 < numT T nm by omega)
      generalize (z.fdiv 2).fmod (numT T nm) = v at *
      refine app_m (f := WD.w) (x := (⟨nm, 1 + v, 3⟩ : Use)) gup_same (by omega) rfl ?_
      rw [gup_gup]
      refine nl_of (CF := callF P gl n) (gl := gl) ?_
      refine hK _ _ ⟨U ++ [⟨nm, 1 + v, 3⟩], _, by simp; omega, ?_, ?_, rfl, rfl⟩
      · rw [List.map_append]
        refine List.nodup_append.mpr ⟨hnu, by simp, fun a ha b hb z => ?_⟩
        have hb : b = nm := by simpa using hb
        subst z
        subst hb
        obtain ⟨u, h1, h2⟩ := List.mem_map.mp ha
        obtain ⟨j, j1, j2⟩ := (hu u h1).2.2
        rw [h2] at j2
        have := nodup_ix hnd j2 hnm
        omega
      · intro u h
        rcases List.mem_append.mp h with z | z
        · obtain ⟨h1, h3, j, j1, j2⟩ := hu u z
          exact ⟨h1, h3, j, by omega, j2⟩
        · rw [List.mem_singleton.mp z]
          exact ⟨⟨_, hg, show (1 : Int) ≤ 1 + v by omega, show 1 + v ≤ _ by omega, show (0 : Int) ≤ 3 by decide, show (3 : Int) ≤ 1000000000 by decide⟩, rfl, k, by omega, hnm⟩
end
def sumU (nm : Str) (us : List Use) : Int := ((us.filter fun u => decide (u.a = nm)).map (·.b)).sum
theorem sumU_snoc {nm : Str} {us : List Use} {u : Use} : sumU nm (us ++ [u]) = sumU nm us + if nm = u.a then u.b else 0 := by
  unfold sumU
  rw [List.filter_append, List.map_append, List.sum_append]
  by_cases c : u.a = nm
  · rw [if_pos c.symm]; simp [c]
  · rw [if_neg (fun z => c z.symm)]; simp [c]
theorem nodup_by {α β : Type} {f : α → β} {l : List α} (h : (l.map f).Nodup) {a b : α} (ha : a ∈ l) (hb : b ∈ l) (e : f a = f b) : a = b := by
  obtain ⟨i, hi⟩ := List.mem_iff_getElem?.mp ha
  obtain ⟨j, hj⟩ := List.mem_iff_getElem?.mp hb
  have h1 : (l.map f)[i]? = some (f a) := by rw [List.getElem?_map, hi]; rfl
  have h2 : (l.map f)[j]? = some (f a) := by rw [List.getElem?_map, hj, e]; rfl
  have := nodup_ix h h1 h2
  subst this
  rw [hi] at hj
  simpa using hj
theorem nodup_fst {kvs : List (Str × Addr)} {a b : Str × Addr} (h : (kvs.map (·.1)).Nodup) (ha : a ∈ kvs) (hb : b ∈ kvs) (e : a.1 = b.1) : a = b := nodup_by h ha hb e
theorem nodup_snd {kvs : List (Str × Addr)} {a b : Str × Addr} (h : (kvs.map (·.2)).Nodup) (ha : a ∈ kvs) (hb : b ∈ kvs) (e : a.2 = b.2) : a = b := nodup_by h ha hb e
def rowF (N : Nat) (F : Nat → Int) : List W := (List.range N).map fun t => .int (F t)
theorem rowF_len {N : Nat} {F : Nat → Int} : (rowF N F).length = N := by simp [rowF]
theorem rowF_at {N : Nat} {F : Nat → Int} {t : Nat} (h : t < N) : (rowF N F)[t]? = some (.int (F t)) := by
  unfold rowF; rw [List.getElem?_map, List.getElem?_range h]; rfl
theorem rowF_set {N : Nat} {F : Nat → Int} {t : Nat} {v : Int} : (rowF N F).set t (.int v) = rowF N fun k => if k = t then v else F k := by
  refine List.ext_getElem? fun i => ?_
  rw [List.getElem?_set]
  by_cases c : t = i
  · subst c
    rw [if_pos rfl, rowF_len]
    by_cases c2 : t < N
    · rw [if_pos c2, rowF_at c2, if_pos rfl]
    · rw [if_neg c2, List.getElem?_eq_none (by rw [rowF_len]; omega)]
  · rw [if_neg c]
    by_cases c2 : i < N
    · rw [rowF_at c2, rowF_at c2, if_neg (fun z => c z.symm)]
    · rw [List.getElem?_eq_none (by rw [rowF_len]; omega), List.getElem?_eq_none (by rw [rowF_len]; omega)]
structure LoadI (N : Nat) (g0 g : G) (p : Addr) (F : Str → Nat → Int) (kvs : List (Str × Addr)) : Prop where
  d : g p = some (.dic false (kU kvs))
  nk : (kvs.map (·.1)).Nodup
  na : (kvs.map (·.2)).Nodup
  v : ∀ e ∈ kvs, e.2 ≠ p ∧ g e.2 = some (.lst (rowF N (F e.1)))
  x : Ext g0 g
  fp : g0 p = none
  f : ∀ e ∈ kvs, g0 e.2 = none
section
variable {g g0 : G} {x : XK3} {q : VK3} {n N : Nat} {p : Addr} {F : Str → Nat → Int} {kvs : List (Str × Addr)}
theorem LoadI.same {F' : Str → Nat → Int} (U : LoadI N g0 g p F kvs) (h : ∀ e ∈ kvs, ∀ t, t < N → F' e.1 t = F e.1 t) : LoadI N g0 g p F' kvs := by
  refine ⟨U.d, U.nk, U.na, fun e he => ⟨(U.v e he).1, ?_⟩, U.x, U.fp, U.f⟩
  rw [(U.v e he).2]
  unfold rowF
  congr 2
  refine List.map_congr_left fun t ht => ?_
  rw [h e he t (List.mem_range.mp ht)]
theorem LoadI.ext {p2 : Addr} {o : GO} (U : LoadI N g0 g p F kvs) (h : g p2 = none) : LoadI N g0 (gup g p2 o) p F kvs := by
  have E : Ext g (gup g p2 o) := Ext.new h
  exact ⟨E _ _ U.d, U.nk, U.na, fun e he => ⟨(U.v e he).1, E _ _ (U.v e he).2⟩, U.x.trans E, U.fp, U.f⟩
theorem LoadI.get (U : LoadI N g0 g p F kvs) {nm : Str} {a : Addr} (h : (nm, a) ∈ kvs) : dGet (kU kvs) (.inr nm) = some (.ref a) := by
  rw [kU_get]
  obtain ⟨a', ha'⟩ := mem_dGet h
  have h1 := nodup_fst U.nk (dGet_mem ha') h rfl
  have h2 : a' = a := congrArg Prod.snd h1
  have ha' : dGet kvs nm = some a' := ha'
  rw [ha', h2]; rfl
theorem LoadI.put (U : LoadI N g0 g p F kvs) {nm : Str} {a : Addr} {t : Nat} {v : Int} (h : (nm, a) ∈ kvs) : LoadI N g0 (gup g a (.lst ((rowF N (F nm)).set t (.int v)))) p (fun k s => if k = nm then (if s = t then v else F nm s) else F k s) kvs := by
  have hv := U.v _ h
  refine ⟨by rw [gup_ne (Ne.symm hv.1)]; exact U.d, U.nk, U.na, fun e he => ⟨(U.v e he).1, ?_⟩, Ext.wr U.x (U.f _ h), U.fp, U.f⟩
  by_cases c : e.2 = a
  · have : e = (nm, a) := nodup_snd U.na he h c
    subst this
    simp only [if_pos]
    rw [gup_same, rowF_set]
  · rw [gup_ne c, (U.v e he).2]
    have : e.1 ≠ nm := fun z => c (by rw [nodup_fst U.nk he h z])
    simp only [if_neg this]
theorem LoadI.new (U : LoadI N g0 g p F kvs) {nm : Str} {a : Addr} (ha : g a = none) (hn : nm ∉ kvs.map (·.1)) : LoadI N g0 (gup (gup g a (.lst (rowF N (F nm)))) p (.dic false (kU (kvs ++ [(nm, a)])))) p F (kvs ++ [(nm, a)]) := by
  have hap : a ≠ p := fun z => by rw [z, U.d] at ha; cases ha
  have h0 : g0 a = none := by
    cases e : g0 a with
    | none => rfl
    | some o => rw [U.x a o e] at ha; cases ha
  refine ⟨gup_same, ?_, ?_, fun e he => ?_, Ext.wr (Ext.wr U.x h0) U.fp, U.fp, fun e he => ?_⟩
  · rw [List.map_append]
    refine List.nodup_append.mpr ⟨U.nk, by simp, fun x hx y hy z => ?_⟩
    have hy : y = nm := by simpa using hy
    rw [z, hy] at hx
    exact hn hx
  · rw [List.map_append]
    refine List.nodup_append.mpr ⟨U.na, by simp, fun x hx y hy z => ?_⟩
    have hy : y = a := by simpa using hy
    rw [z, hy] at hx
    obtain ⟨e, he, h2⟩ := List.mem_map.mp hx
    have h2 : e.2 = a := h2
    have := (U.v e he).2
    rw [h2, ha] at this
    cases this
  · rcases List.mem_append.mp he with h | h
    · have hv := U.v e h
      refine ⟨hv.1, ?_⟩
      rw [gup_ne hv.1, gup_ne (fun z => by rw [z, ha] at hv; cases hv.2)]
      exact hv.2
    · rw [List.mem_singleton.mp h]
      refine ⟨hap, ?_⟩
      show gup (gup g a _) p _ a = _
      rw [gup_ne hap, gup_same]
  · rcases List.mem_append.mp he with h | h
    · exact U.f e h
    · rw [List.mem_singleton.mp h]; exact h0
theorem use_name {T : List (Str × Int)} {u : Use} (h : UseOk T u) : u.a ∈ T.map (·.1) ∧ dGet (toolK T) (.inr u.a) = some (.int (numT T u.a)) ∧ 1 ≤ u.b ∧ u.b ≤ numT T u.a := by
  obtain ⟨c, h1, h2, h3, _⟩ := h.ex
  have hm : u.a ∈ T.map (·.1) := by
    obtain ⟨e, he, h2⟩ := List.mem_map.mp (dGet_mem h1)
    have : e.1 = u.a := Sum.inr.inj (congrArg Prod.fst h2)
    rw [← this]
    exact List.mem_map_of_mem (f := (·.1)) he
  have h4 := num_at hm
  rw [h1] at h4
  have h5 : c = numT T u.a := by simpa using h4
  refine ⟨hm, by rw [h1, h5], h2, by omega⟩
theorem c_free58 {T : List (Str × Int)} {U : List Use} (hU : ∀ u ∈ U, UseOk T u) (hUl : U.length ≤ 1000) {td : Addr} (ht : g td = some (.dic false (toolK T))) (L : LoadI N g0 g p F kvs) (hk : ∀ nm ∈ T.map (·.1), ∃ a, (nm, a) ∈ kvs) {b s : Nat} (hN : b + s ≤ N) (hN2 : N ≤ 1000)
    (hq : ∀ r : Bool, (r = true → ∀ u ∈ U, ∀ t, b ≤ t → t < b + s → F u.a t + u.b ≤ numT T u.a) → q (.bl r) g) : callF P gl (n + 1) 27 [.ref td, .ref p, .lv (U.map WD.w), .int (b : Int), .int (s : Int)] g x q := by
  refine u27 ?_
  refine st_of rfl ?_
  walk_at "ss"
  refine for_map (fun pre post σ g' => ∃ o5 o6 o7 o8, (∀ u ∈ pre, ∀ t, b ≤ t → t < b + s → F u.a t + u.b ≤ numT T u.a) ∧ σ = [some (.ref td), some (.ref p), some (.lv (U.map WD.w)), some (.int (b : Int)), some (.int (s : Int)), o5, o6, o7, o8] ∧ g' = g) ⟨none, none, none, none, by simp, rfl, rfl⟩ ?_ ?_
  · rintro σ g' ⟨o5, o6, o7, o8, h, rfl, rfl⟩
    refine ⟨trivial, ?_⟩
    refine st_of rfl ?_
    walk_at "ss"
    exact (hq true fun _ => h)
  · rintro u pre post σ g' hx ⟨o5, o6, o7, o8, h, rfl, rfl⟩ K hK
    refine ⟨trivial, ?_⟩
    obtain ⟨h1, h2, h3, h4⟩ := use_name (hU u (by rw [hx]; simp))
    obtain ⟨nm, m, ht3⟩ := u
    simp only at h1 h2 h3 h4
    obtain ⟨a, ha⟩ := hk nm h1
    rw [show (WD.w (⟨nm, m, ht3⟩ : Use) : W) = .tup [.str nm, .int m, .int ht3] from rfl]
    walk_at "ss"
    refine ⟨rfl, ?_⟩
    show svs _ _ _ _ [some (.ref td), some (.ref p), some (.lv (U.map WD.w)), some (.int (b : Int)), some (.int (s : Int)), some (.str nm), some (.int m), some (.int ht3), o8] _
    refine st_of rfl ?_
    walk_at "ss"
    refine ⟨b, ((b + s : Nat) : Int), rfl, by simp, small_len (by omega), small_len (by omega), ?_⟩
    rw [show (((b + s : Nat) : Int) - (b : Int)).toNat = s by omega]
    refine for_rng (fun k σ g2 => ∃ o8, (∀ t, b ≤ t → t < b + k → F nm t + m ≤ numT T nm) ∧ σ = [some (.ref td), some (.ref p), some (.lv (U.map WD.w)), some (.int (b : Int)), some (.int (s : Int)), some (.str nm), some (.int m), some (.int ht3), o8] ∧ g2 = g') ⟨o8, fun t _ _ => by omega, rfl, rfl⟩ ?_ ?_
    · rintro σ g2 ⟨o8, h9, rfl, hg⟩
      subst g2
      refine ⟨trivial, ?_⟩
      try refine nl_of (CF := callF P gl n) (gl := gl) ?_
      refine hK _ _ ⟨_, _, _, _, fun u hu => ?_, rfl, rfl⟩
      rcases List.mem_append.mp hu with z | z
      · exact h u z
      · rw [List.mem_singleton.mp z]; exact h9
    · rintro k σ g2 hk2 ⟨o8, h9, rfl, hg⟩ K2 hK2
      subst g2
      refine ⟨trivial, ?_⟩
      show svs _ _ _ _ [some (.ref td), some (.ref p), some (.lv (U.map WD.w)), some (.int (b : Int)), some (.int (s : Int)), some (.str nm), some (.int m), some (.int ht3), some (.int ((b : Int) + (k : Nat)))] _
      refine st_of rfl ?_
      walk_at "ss"
      rw [ix_dic L.d]
      refine ⟨_, L.get ha, ?_⟩
      try walk_at "ss"
      rw [ixL (L.v _ ha).2, show (b : Int) + (k : Int) = ((b + k : Nat) : Int) by omega]
      refine ⟨_, by rw [atI_n, rowF_at (by omega)], ?_⟩
      try walk_at "ss"
      rw [ix_dic ht]
      refine ⟨_, h2, ?_⟩
      try walk_at "ss"
      by_cases c : numT T nm < F nm (b + k) + m
      · rw [if_pos (by simpa using c)]
        refine st_of rfl ?_
        walk_at "ss"
        first | exact hq false (fun z => by cases z) | exact rt_keep (hq false fun z => by cases z)
      · rw [if_neg (by simpa using c)]
        refine nl_of (CF := callF P gl n) (gl := gl) ?_
        refine hK2 _ _ ⟨_, fun t t1 t2 => ?_, rfl, rfl⟩
        rcases Nat.lt_or_ge t (b + k) with z | z
        · exact h9 t t1 z
        · have : t = b + k := by omega
          subst this; omega
end
def ldI (PL : List Pd) (nm : Str) (t : Int) : Int := (PL.map fun p => if p.a ≤ t ∧ t < p.b then sumU nm p.c else 0).sum
theorem ldI_snoc {PL : List Pd} {p : Pd} {nm : Str} {t : Int} : ldI (PL ++ [p]) nm t = ldI PL nm t + if p.a ≤ t ∧ t < p.b then sumU nm p.c else 0 := by
  unfold ldI
  rw [List.map_append, List.sum_append]
  simp
theorem ldI_late {PL : List Pd} {nm : Str} {t : Int} (h : ∀ p ∈ PL, p.b ≤ t) : ldI PL nm t = 0 := by
  induction PL with
  | nil => rfl
  | cons p PL ih =>
    have := h p List.mem_cons_self
    unfold ldI at ih ⊢
    rw [List.map_cons, List.sum_cons, ih fun p hp => h p (List.mem_cons_of_mem _ hp), if_neg (by omega)]; rfl
theorem sumU_out {U : List Use} {nm : Str} (h : nm ∉ U.map (·.a)) : sumU nm U = 0 := by
  induction U with
  | nil => rfl
  | cons u U ih =>
    rw [List.map_cons, List.mem_cons, not_or] at h
    unfold sumU at ih ⊢
    rw [List.filter_cons_of_neg (by simpa using fun z => h.1 z.symm)]
    exact ih h.2
theorem sumU_at {U : List Use} {u : Use} (hn : (U.map (·.a)).Nodup) (h : u ∈ U) : sumU u.a U = u.b := by
  induction U with
  | nil => cases h
  | cons v U ih =>
    rw [List.map_cons, List.nodup_cons] at hn
    rcases List.mem_cons.mp h with rfl | h
    · have := sumU_out hn.1
      unfold sumU at this ⊢
      rw [List.filter_cons_of_pos (by simp), List.map_cons, List.sum_cons, this]; omega
    · have h2 := ih hn.2 h
      have : v.a ≠ u.a := fun z => hn.1 (by rw [z]; exact List.mem_map_of_mem (f := (·.a)) h)
      unfold sumU at h2 ⊢
      rw [List.filter_cons_of_neg (by simpa using this)]
      exact h2
structure PlacedB (T : List (Str × Int)) (PL : List Pd) (last : Int) : Prop where
  b : ∀ p ∈ PL, (0 ≤ p.a ∧ p.a < p.b) ∧ (p.b ≤ p.a + 5 ∧ p.b ≤ last) ∧ UsesH T p.c
  c : ∀ nm ∈ T.map (·.1), ∀ t : Int, ldI PL nm t ≤ numT T nm
theorem PlacedB.add {T : List (Str × Int)} {PL : List Pd} {last : Int} (hT : ToolOk T) (B : PlacedB T PL last) {b s : Int} {U : List Use} (hU : UsesH T U) (hb : 0 ≤ b) (hs : 1 ≤ s ∧ s ≤ 5)
    (hf : ∀ u ∈ U, ∀ t, b ≤ t → t < b + s → ldI PL u.a t + u.b ≤ numT T u.a) : PlacedB T (PL ++ [⟨b, b + s, U⟩]) (max last (b + s)) := by
  refine ⟨fun p hp => ?_, fun nm hn t => ?_⟩
  · rcases List.mem_append.mp hp with h | h
    · have := B.b p h
      refine ⟨this.1, ⟨this.2.1.1, by have := this.2.1.2; omega⟩, this.2.2⟩
    · rw [List.mem_singleton.mp h]
      exact ⟨⟨hb, show b < b + s by omega⟩, ⟨show b + s ≤ b + 5 by omega, show b + s ≤ max last (b + s) by omega⟩, hU⟩
  · rw [ldI_snoc]
    have h0 := B.c nm hn t
    by_cases c : b ≤ t ∧ t < b + s
    · rw [if_pos c]
      show _ + sumU nm U ≤ _
      by_cases c2 : nm ∈ U.map (·.a)
      · obtain ⟨u, hu, rfl⟩ := List.mem_map.mp c2
        rw [sumU_at hU.nd hu]
        exact hf u hu t c.1 c.2
      · rw [sumU_out c2]; omega
    · rw [if_neg c]; omega
section
variable {g g0 : G} {x : XK3} {q : VK3} {n : Nat}
theorem un_two {g0 g1 : G} {a : Addr} {kvs : List (Key × W)} {P : G → Prop} (h0 : g0 a = some (.dic false kvs)) (h1 : g1 a = some (.dic false kvs)) (hq : P g1) : un g0 P (gup g1 a (.dic true kvs)) := by
  refine .inr ⟨a, fun z => ?_, .inl ⟨kvs, gup_same⟩, ?_⟩
  · rcases z with ⟨_, z⟩ | ⟨_, z⟩ <;> (rw [h0] at z; cases z)
  · rw [unl_dic gup_same, gup_gup, gup_eta h1]; exact hq
theorem c_placed58 {T : List (Str × Int)} (hT : ToolOk T) (hTl : T.length ≤ 3) {ns : List Int} {cm : Nat} (hc : cm ≤ 24) {td : Addr} (ht : g td = some (.dic false (toolK T))) (hq : ∀ PL : List Pd, PL.length = cm → PlacedB T PL 131 → q (.lv (PL.map WD.w)) g) : callF P gl (n + 2) 28 [.scr (ns.map W.int), .ref td, .int (cm : Int)] g x q := by
  refine u28 ?_
  refine st_of rfl ?_
  walk_at "ss"
  intro lp hlp
  have ht1 : gup g lp (.dic false []) td = some (.dic false (toolK T)) := by rw [gup_ne (ne_free ht hlp)]; exact ht
  have hne := ne_free ht hlp
  refine st_of rfl ?_
  walk_at "ss"
  rw [keys_dic ht1]
  have ek : (toolK T).map (fun p => kW p.1) = (T.map (·.1)).map W.str := by simp [toolK, kW, Function.comp_def]
  rw [ek]
  refine for_map (fun pre post σ g' => ∃ kvs g1 o3, LoadI 160 g g1 lp (fun _ _ => 0) kvs ∧ kvs.map (·.1) = pre ∧ σ = [some (.scr (ns.map W.int)), some (.ref td), some (.int (cm : Int)), some (.ref lp), o3, none, none, none, none, none, none, none, none, none, none] ∧ g' = gup g1 td (.dic true (toolK T))) ⟨[], gup g lp (.dic false []), none, ⟨gup_same, by simp, by simp, by simp, Ext.new hlp, hlp, by simp⟩, rfl, rfl, rfl⟩ ?_ ?_
  · rintro σ g' ⟨kvs, g1, o3, L, hks, rfl, rfl⟩
    have ht2 := L.x _ _ ht
    refine ⟨gup_same, un_two ht1 ht2 ?_⟩
    refine st_of rfl ?_
    walk_at "ss"
    intro pl hpl
    refine st_of rfl ?_
    walk_at "ss"
    refine st_of rfl ?_
    walk_at "ss"
    have hk : ∀ nm ∈ T.map (·.1), ∃ a, (nm, a) ∈ kvs := fun nm h => by
      rw [← hks] at h
      obtain ⟨e, he, h2⟩ := List.mem_map.mp h
      exact ⟨e.2, by rw [← h2]; exact he⟩
    have hgpl : g pl = none := by
      cases e : g pl with
      | none => rfl
      | some o => rw [L.x pl o e] at hpl; cases hpl
    have hkl : ∀ e ∈ kvs, e.2 ≠ pl := fun e he => ne_free (L.v e he).2 hpl
    have hlpl : lp ≠ pl := ne_free L.d hpl
    have L0 : LoadI 160 g (gup g1 pl (.lst [])) lp (fun _ _ => 0) kvs := L.ext hpl
    refine ⟨small_len (by omega), ?_⟩
    rw [Int.toNat_natCast]
    refine for_rng (fun i σ g' => ∃ PL o3 l o6 o7 o8 o9 o10 o11 o12 o13, PL.length = i ∧ l ≤ 11 + 5 * PL.length ∧ PlacedB T PL ((l : Nat) : Int) ∧ LoadI 160 g g' lp (fun nm t => ldI PL nm (t : Int)) kvs ∧ g' pl = some (.lst (PL.map WD.w)) ∧
      σ = [some (.scr (ns.map W.int)), some (.ref td), some (.int (cm : Int)), some (.ref lp), o3, some (.ref pl), some (.int (l : Int)), o6, o7, o8, o9, o10, o11, o12, o13]) ⟨[], o3, 0, none, none, none, none, none, none, none, none, rfl, by omega, ⟨by simp, fun nm h t => by have := num_b hT h; show (0 : Int) ≤ _; omega⟩, L0, gup_same, rfl⟩ ?_ ?_
    · rintro σ g3 ⟨PL, o3, l, o6, o7, o8, o9, o10, o11, o12, o13, hl, hll, B, L3, hpl3, rfl⟩
      refine ⟨trivial, ?_⟩
      walk_at "ss"
      have hE : Ext g (gdel g3 pl) := fun a o h => by
        have : a ≠ pl := fun z => by rw [z, hgpl] at h; cases h
        unfold gdel
        rw [if_neg this]
        exact L3.x a o h
      try simp only [frzI_0, frzI_s]
      rw [frzS_lst hpl3]
      refine st_of rfl ?_
      walk_at "ss"
      refine rt_drop hE (hq PL hl ⟨fun p hp => ?_, B.c⟩)
      have := B.b p hp
      refine ⟨this.1, ⟨this.2.1.1, by have := this.2.1.2; omega⟩, this.2.2⟩
    · rintro i σ g3 hik ⟨PL, o3, l, o6, o7, o8, o9, o10, o11, o12, o13, hl, hll, B, L3, hpl3, rfl⟩ K hK
      refine ⟨trivial, ?_⟩
      have hPl : PL.length ≤ 23 := by omega
      have ht3 := L3.x _ _ ht
      show svs _ _ _ _ [some (.scr (ns.map W.int)), some (.ref td), some (.int (cm : Int)), some (.ref lp), o3, some (.ref pl), some (.int (l : Int)), some (.int (0 + (i : Nat))), o7, o8, o9, o10, o11, o12, o13] _
      rw [Int.zero_add]
      refine st_of rfl ?_
      walk_at "ss"
      rw [show (4 : Int) + (i : Int) = ((4 + i : Nat) : Int) by omega]
      refine c_cell ?_
      walk_at "ss"
      refine c_drawn (m := 6) (by decide) fun xs hxs => ?_
      have gt : ∀ k, k < 6 → ∃ z, xs[k]? = some z ∧ 0 ≤ z ∧ z < 2147483629 := fun k hk => ⟨_, get_lt (by rw [hxs.1]; exact hk), hxs.2 _ (List.getElem_mem _)⟩
      obtain ⟨z4, e4, _⟩ := gt 4 (by decide)
      obtain ⟨z5, e5, _⟩ := gt 5 (by decide)
      try walk_at "ss"
      refine st_of rfl ?_
      walk_at "ss"
      refine c_uses58 hT hTl (by rw [hxs.1]; decide) ht3 fun U hU => ?_
      try walk_at "ss"
      refine st_of rfl ?_
      walk_at "ss"
      refine ixV_m (f := W.int) (k := 4) e4 ?_
      walk_at "ss"
      obtain ⟨b8, hb8, eb8⟩ := mod_nat z4 (m := 12) (by decide)
      rw [show z4.fmod 12 = (b8 : Int) from eb8]
      refine st_of rfl ?_
      walk_at "ss"
      refine ixV_m (f := W.int) (k := 5) e5 ?_
      walk_at "ss"
      obtain ⟨s5, hs5, es5⟩ := mod_nat z5 (m := 5) (by decide)
      rw [show z5.fmod 5 = (s5 : Int) from es5, show (1 : Int) + (s5 : Int) = ((1 + s5 : Nat) : Int) by omega]
      generalize hS : 1 + s5 = s at *
      have rest : ∀ b : Nat, b ≤ 11 + 5 * PL.length → (∀ u ∈ U, ∀ t : Int, b ≤ t → t < b + s → ldI PL u.a t + u.b ≤ numT T u.a) → ∀ D : Ends3, D.nx = K → svs (callF P gl (n + 1)) gl b28_12 D [some (.scr (ns.map W.int)), some (.ref td), some (.int (cm : Int)), some (.ref lp), o3, some (.ref pl), some (.int (l : Int)), some (.int (i : Int)), some (.lv (xs.map W.int)), some (.lv (U.map WD.w)), some (.int (b : Int)), some (.int (s : Int)), o11, o12, o13] g3 := fun b hb hf D hD => by
        refine st_of rfl ?_
        walk_at "ss"
        refine for_map (fun pre2 post2 σ g4 => ∃ o3 o11 o12 o13, LoadI 160 g g4 lp (fun nm t => ldI PL nm (t : Int) + if b ≤ t ∧ t < b + s then sumU nm pre2 else 0) kvs ∧ g4 pl = some (.lst (PL.map WD.w)) ∧ σ = [some (.scr (ns.map W.int)), some (.ref td), some (.int (cm : Int)), some (.ref lp), o3, some (.ref pl), some (.int (l : Int)), some (.int (i : Int)), some (.lv (xs.map W.int)), some (.lv (U.map WD.w)), some (.int (b : Int)), some (.int (s : Int)), o11, o12, o13]) ⟨o3, o11, o12, o13, L3.same fun e _ t _ => by show _ + (if _ then (0 : Int) else 0) = _; split <;> omega, hpl3, rfl⟩ ?_ ?_
        · rintro σ g4 ⟨o3, o11, o12, o13, L4, hpl4, rfl⟩
          refine ⟨trivial, ?_⟩
          refine st_of rfl ?_
          walk_at "ss"
          have em : (if (b : Int) + (s : Int) > (l : Int) then (b : Int) + (s : Int) else (l : Int)) = ((max l (b + s) : Nat) : Int) := by split <;> omega
          rw [em]
          refine st_of rfl ?_
          walk_at "ss"
          refine ⟨isLst_of hpl4, ?_⟩
          try walk_at "ss"
          refine app_m (f := WD.w) (x := (⟨(b : Int), (b : Int) + (s : Int), U⟩ : Pd)) hpl4 (by omega) rfl ?_
          try refine nl_of (CF := callF P gl (n + 1)) (gl := gl) ?_
          rw [hD]
          have L5 : LoadI 160 g g4 lp (fun nm t => ldI (PL ++ [(⟨(b : Int), (b : Int) + (s : Int), U⟩ : Pd)]) nm (t : Int)) kvs := L4.same fun e _ t _ => by
            rw [ldI_snoc]
            show _ + (if (b : Int) ≤ (t : Int) ∧ (t : Int) < (b : Int) + (s : Int) then sumU e.1 U else 0) = _
            by_cases c1 : b ≤ t ∧ t < b + s
            · rw [if_pos c1, if_pos (show (b : Int) ≤ (t : Int) ∧ (t : Int) < (b : Int) + (s : Int) by omega)]
            · rw [if_neg c1, if_neg (show ¬ ((b : Int) ≤ (t : Int) ∧ (t : Int) < (b : Int) + (s : Int)) by omega)]
          have B2 := B.add hT (b := (b : Int)) (s := (s : Int)) hU (by omega) (by omega) hf
          have em2 : max (l : Int) ((b : Int) + (s : Int)) = ((max l (b + s) : Nat) : Int) := by omega
          rw [em2] at B2
          refine hK _ _ ⟨PL ++ [⟨(b : Int), (b : Int) + (s : Int), U⟩], _, max l (b + s), _, _, _, _, _, _, _, _, by simp [hl], by rw [List.length_append, List.length_singleton]; omega, B2, ?_, gup_same, rfl⟩
          refine ⟨by rw [gup_ne (show lp ≠ pl from hlpl)]; exact L5.d, L5.nk, L5.na, fun e he => ⟨(L5.v e he).1, by rw [gup_ne (hkl e he)]; exact (L5.v e he).2⟩, Ext.wr L5.x hgpl, L5.fp, L5.f⟩
        · rintro u pre2 post2 σ g4 hx2 ⟨o3, o11, o12, o13, L4, hpl4, rfl⟩ K2 hK2
          refine ⟨trivial, ?_⟩
          have hum : u ∈ U := by rw [hx2]; simp
          obtain ⟨h1, h2, h3, h4⟩ := use_name (hU.u u hum).1
          obtain ⟨nm, m, hh⟩ := u
          simp only at h1 h2 h3 h4
          obtain ⟨a, ha⟩ := hk nm h1
          rw [show (WD.w (⟨nm, m, hh⟩ : Use) : W) = .tup [.str nm, .int m, .int hh] from rfl]
          walk_at "ss"
          refine ⟨rfl, ?_⟩
          show svs _ _ _ _ [some (.scr (ns.map W.int)), some (.ref td), some (.int (cm : Int)), some (.ref lp), some (.str nm), some (.ref pl), some (.int (l : Int)), some (.int (i : Int)), some (.lv (xs.map W.int)), some (.lv (U.map WD.w)), some (.int (b : Int)), some (.int (s : Int)), some (.int m), some (.int hh), o13] _
          refine st_of rfl ?_
          walk_at "ss"
          refine ⟨b, ((b + s : Nat) : Int), rfl, by simp, small_len (by omega), small_len (by omega), ?_⟩
          rw [show (((b + s : Nat) : Int) - (b : Int)).toNat = s by omega]
          refine for_rng (fun k σ g5 => ∃ o13, LoadI 160 g g5 lp (fun nm' t => (ldI PL nm' (t : Int) + if b ≤ t ∧ t < b + s then sumU nm' pre2 else 0) + if nm' = nm ∧ b ≤ t ∧ t < b + k then m else 0) kvs ∧ g5 pl = some (.lst (PL.map WD.w)) ∧ σ = [some (.scr (ns.map W.int)), some (.ref td), some (.int (cm : Int)), some (.ref lp), some (.str nm), some (.ref pl), some (.int (l : Int)), some (.int (i : Int)), some (.lv (xs.map W.int)), some (.lv (U.map WD.w)), some (.int (b : Int)), some (.int (s : Int)), some (.int m), some (.int hh), o13]) ⟨o13, L4.same fun e _ t _ => by rw [if_neg (show ¬ (e.1 = nm ∧ b ≤ t ∧ t < b + 0) from fun z => by have := z.2; omega), Int.add_zero], hpl4, rfl⟩ ?_ ?_
          · rintro σ g5 ⟨o13, L5, hpl5, rfl⟩
            refine ⟨trivial, ?_⟩
            try refine nl_of (CF := callF P gl (n + 1)) (gl := gl) ?_
            refine hK2 _ _ ⟨_, _, _, _, L5.same fun e _ t _ => ?_, hpl5, rfl⟩
            rw [sumU_snoc]
            show _ = _ + (if _ then _ else _)
            by_cases c1 : b ≤ t ∧ t < b + s
            · rw [if_pos c1, if_pos c1]
              by_cases c2 : e.1 = nm
              · rw [if_pos (show e.1 = nm from c2), if_pos (show e.1 = nm ∧ b ≤ t ∧ t < b + s from ⟨c2, c1⟩)]; show _ + (_ + m) = _ ; omega
              · rw [if_neg (show ¬ e.1 = nm from c2), if_neg (show ¬ (e.1 = nm ∧ b ≤ t ∧ t < b + s) from fun z => c2 z.1)]; omega
            · rw [if_neg c1, if_neg c1, if_neg (fun z => c1 z.2)]; omega
          · rintro k σ g5 hk2 ⟨o13, L5, hpl5, rfl⟩ K3 hK3
            refine ⟨trivial, ?_⟩
            show svs _ _ _ _ [some (.scr (ns.map W.int)), some (.ref td), some (.int (cm : Int)), some (.ref lp), some (.str nm), some (.ref pl), some (.int (l : Int)), some (.int (i : Int)), some (.lv (xs.map W.int)), some (.lv (U.map WD.w)), some (.int (b : Int)), some (.int (s : Int)), some (.int m), some (.int hh), some (.int ((b : Int) + (k : Nat)))] _
            rw [show (b : Int) + (k : Int) = ((b + k : Nat) : Int) by omega]
            refine st_of rfl ?_
            walk_at "ss"
            rw [ix_dic L5.d]
            refine ⟨_, L5.get ha, ?_⟩
            try walk_at "ss"
            rw [ixL (L5.v _ ha).2]
            refine ⟨_, by rw [atI_n, rowF_at (by omega)], ?_⟩
            try walk_at "ss"
            rw [ix_dic L5.d]
            refine ⟨_, L5.get ha, ?_⟩
            try walk_at "ss"
            rw [put_lst (L5.v _ ha).2]
            refine ⟨b + k, ixN_n (by rw [rowF_len]; omega), ?_⟩
            try refine nl_of (CF := callF P gl (n + 1)) (gl := gl) ?_
            refine hK3 _ _ ⟨_, (L5.put ha).same fun e _ t _ => ?_, by rw [gup_ne (hkl _ ha).symm]; exact hpl5, rfl⟩
            show (_ + if e.1 = nm ∧ b ≤ t ∧ t < b + (k + 1) then m else 0) = if e.1 = nm then _ else _
            by_cases c1 : e.1 = nm
            · subst c1
              simp only [eq_self, true_and, if_true]
              by_cases c2 : t = b + k
              · subst c2
                rw [if_pos (show b ≤ b + k ∧ b + k < b + (k + 1) by omega), if_pos rfl, if_neg (show ¬ (b ≤ b + k ∧ b + k < b + k) by omega)]; omega
              · rw [if_neg c2]
                by_cases c3 : b ≤ t ∧ t < b + k
                · rw [if_pos (show b ≤ t ∧ t < b + (k + 1) by omega), if_pos c3]
                · rw [if_neg (show ¬ (b ≤ t ∧ t < b + (k + 1)) by omega), if_neg c3]
            · rw [if_neg c1, if_neg (show ¬ (e.1 = nm ∧ b ≤ t ∧ t < b + (k + 1)) from fun z => c1 z.1), if_neg (show ¬ (e.1 = nm ∧ b ≤ t ∧ t < b + k) from fun z => c1 z.1)]
      refine st_of rfl ?_
      walk_at "ss"
      refine c_free58 (b := b8) (s := s) (fun u hu => (hU.u u hu).1) (by have := hU.l; omega) ht3 L3 hk (by omega) (by decide) fun r hr => ?_
      try walk_at "ss"
      cases r with
      | true =>
        try simp only [Bool.not_true, if_f]
        refine nl_of (CF := callF P gl (n + 1)) (gl := gl) ?_
        refine rest b8 (by omega) (fun u hu t t1 t2 => ?_) _ rfl
        have := hr rfl u hu t.toNat (by omega) (by omega)
        rwa [Int.toNat_of_nonneg (by omega)] at this
      | false =>
        try simp only [Bool.not_false, if_t]
        refine st_of rfl ?_
        walk_at "ss"
        refine nl_of (CF := callF P gl (n + 1)) (gl := gl) ?_
        refine rest l (by omega) (fun u hu t t1 t2 => ?_) _ rfl
        rw [ldI_late fun p hp => by have := (B.b p hp).2.1; omega]
        have := use_name (hU.u u hu).1
        omega
  · rintro nm pre post σ g' hx ⟨kvs, g1, o3, L, hks, rfl, rfl⟩ K hK
    refine ⟨gup_same, ?_⟩
    have hld := L.d
    have hkl : kvs.length ≤ 3 := by
      have h1 : (T.map (·.1)).length ≤ 3 := by simpa using hTl
      rw [hx, ← hks] at h1
      simp at h1; omega
    show svs _ _ _ _ [some (.scr (ns.map W.int)), some (.ref td), some (.int (cm : Int)), some (.ref lp), some (.str nm), none, none, none, none, none, none, none, none, none, none] _
    refine st_of rfl ?_
    walk_at "ss"
    refine ⟨by decide, by decide, by decide, fun p2 hp2 => ?_⟩
    have n2 : td ≠ p2 := ne_free gup_same hp2
    rw [gup_ne n2.symm] at hp2
    have n3 : lp ≠ p2 := ne_free hld hp2
    rw [show (List.replicate (160 : Int).toNat [W.int 0]).flatten = rowF 160 (fun _ => 0) from rfl]
    have hg : gup (gup g1 td (.dic true (toolK T))) p2 (.lst (rowF 160 fun _ => 0)) lp = some (.dic false (kU kvs)) := by rw [gup_ne n3, gup_ne hne.symm]; exact hld
    simp only [putS, hg, toKey]
    refine ⟨small_line (by simp [kU]; omega), ?_⟩
    have hnn : nm ∉ kvs.map (·.1) := fun z => by
      have hnd := hT.nd
      rw [hx] at hnd
      rw [hks] at z
      have := List.nodup_append.mp hnd
      exact this.2.2 nm z nm List.mem_cons_self rfl
    have hn2 : dGet kvs nm = none := by
      cases e : dGet kvs nm with
      | none => rfl
      | some a => exact absurd (List.mem_map_of_mem (f := (·.1)) (dGet_mem e)) hnn
    rw [kU_new hn2, gup_comm n2, gup_comm hne]
    refine nl_of (CF := callF P gl (n + 1)) (gl := gl) ?_
    exact hK _ _ ⟨kvs ++ [(nm, p2)], _, _, L.new hp2 hnn, by rw [List.map_append, hks]; rfl, rfl, rfl⟩
end
def laterP : List Pd → List Pd × Int
  | [] => ([], 0)
  | p :: PL => ((⟨(laterP PL).2, (laterP PL).2 + (p.b - p.a), p.c⟩ : Pd) :: (laterP PL).1, (laterP PL).2 + (p.b - p.a))
theorem later_len : ∀ {PL : List Pd}, (laterP PL).1.length = PL.length
  | [] => rfl
  | p :: PL => by show (_ :: (laterP PL).1).length = _; rw [List.length_cons, later_len]; rfl
theorem later_c : ∀ {PL : List Pd} {k : Nat}, ((laterP PL).1[k]?).map (·.c) = (PL[k]?).map (·.c)
  | [], k => by simp [laterP]
  | p :: PL, 0 => rfl
  | p :: PL, k + 1 => by
    show ((_ :: (laterP PL).1)[k + 1]?).map (·.c) = _
    rw [List.getElem?_cons_succ, List.getElem?_cons_succ]; exact later_c
section
variable {g : G} {x : XK3} {q : VK3} {n : Nat}
theorem set_mid {α : Type} : ∀ (A : List α) {x v : α} {B : List α}, (A ++ x :: B).set A.length v = A ++ v :: B
  | [], _, _, _ => rfl
  | a :: A, x, v, B => by simp [set_mid A]
theorem wdP (p : Pd) : (WD.w p : W) = .tup [.int p.a, .int p.b, .lv (p.c.map WD.w)] := rfl
theorem c_behind {PL : List Pd} (hl : PL.length ≤ 24) (hq : q (.lv ((laterP PL).1.map WD.w)) g) : callF P gl (n + 1) 29 [.lv (PL.map WD.w)] g x q := by
  refine u29 ?_
  refine st_of rfl ?_
  walk_at "ss"
  intro p hp
  refine st_of rfl ?_
  walk_at "ss"
  refine st_of rfl ?_
  walk_at "ss"
  rw [List.length_map]
  refine ⟨_, _, rfl, rfl, ?_, ⟨by decide, by decide⟩, ?_⟩
  · by_cases z : PL.length = 0
    · rw [z]; exact ⟨by decide, by decide⟩
    · rw [show ((PL.length : Nat) : Int) - 1 = ((PL.length - 1 : Nat) : Int) by omega]; exact small_len (by omega)
  rw [show (((PL.length : Nat) : Int) - 1 - -1).toNat = PL.length by omega]
  refine for_map (f := fun k : Nat => W.int (((PL.length : Nat) : Int) - 1 + (k : Nat) * (-1))) (xs := List.range PL.length) (fun pre post s g1 => ∃ (o3 o4 : Option W), s = [some (.lv (PL.map WD.w)), some (.ref p), some (.int (laterP (PL.drop (PL.length - pre.length))).2), o3, o4] ∧ g1 = gup g p (.lst ((PL.take (PL.length - pre.length) ++ (laterP (PL.drop (PL.length - pre.length))).1).map WD.w))) ⟨none, none, by simp [laterP], by simp [laterP]⟩ ?_ ?_
  · rintro s g1 ⟨o3, o4, rfl, rfl⟩
    refine ⟨trivial, ?_⟩
    rw [List.length_range, Nat.sub_self, List.take_zero, List.drop_zero, List.nil_append]
    walk_at "ss"
    rw [gdel_gup hp]
    refine st_of rfl ?_
    walk_at "ss"
    first | exact rt_keep hq | exact hq
  · rintro k pre post s g1 hx ⟨o3, o4, rfl, rfl⟩ K hK
    have hk : k = pre.length := by
      have h1 := congrArg (fun l => l[pre.length]?) hx
      simp only [List.getElem?_append_right (Nat.le_refl _), Nat.sub_self, List.getElem?_cons_zero] at h1
      have hlt : pre.length < PL.length := by have := congrArg List.length hx; simp at this; omega
      rw [List.getElem?_range hlt] at h1
      exact (Option.some.inj h1).symm
    have hlt : pre.length < PL.length := by have := congrArg List.length hx; simp at this; omega
    obtain ⟨i, hi⟩ : ∃ i, PL.length - pre.length = i + 1 := ⟨PL.length - pre.length - 1, by omega⟩
    have hil : i < PL.length := by omega
    have ei : ((PL.length : Nat) : Int) - 1 + ((k : Nat) : Int) * (-1) = ((i : Nat) : Int) := by omega
    have e1 : PL.length - (pre ++ [k]).length = i := by simp; omega
    rw [e1] at hK
    rw [hi]
    have ep := List.getElem?_eq_getElem hil
    have ed : PL.drop i = PL[i] :: PL.drop (i + 1) := List.drop_eq_getElem_cons hil
    have et : PL.take (i + 1) = PL.take i ++ [PL[i]] := by rw [List.take_succ, ep]; rfl
    rw [ed] at hK
    rw [et]
    generalize PL[i] = pp at *
    obtain ⟨a, b, c⟩ := pp
    refine ⟨trivial, ?_⟩
    rw [ei]
    show svs _ _ _ _ [some (.lv (PL.map WD.w)), some (.ref p), some (.int (laterP (PL.drop (i + 1))).2), some (.int (i : Int)), o4] _
    dsimp only [laterP] at hK
    generalize (laterP (PL.drop (i + 1))).2 = last at *
    generalize hL : (laterP (PL.drop (i + 1))).1 = L at *
    refine st_of rfl ?_
    walk_at "ss"
    refine ixV_m ep ?_
    refine ⟨.int b, rfl, ?_⟩
    refine ixV_m ep ?_
    refine ⟨.int a, rfl, ?_⟩
    walk_at "ss"
    refine st_of rfl ?_
    walk_at "ss"
    refine ixV_m ep ?_
    refine ⟨.lv (c.map WD.w), rfl, ?_⟩
    refine (put_lst gup_same).mpr ⟨i, ixN_n (by simp; omega), ?_⟩
    rw [gup_gup]
    refine st_of rfl ?_
    walk_at "ss"
    refine nl_of ?_
    refine hK _ _ ⟨_, _, rfl, ?_⟩
    congr 2
    have hti : (PL.take i).length = i := by rw [List.length_take]; omega
    have hti2 : ((PL.take i).map WD.w).length = i := by rw [List.length_map]; exact hti
    have := set_mid ((PL.take i).map WD.w) (x := (WD.w (⟨a, b, c⟩ : Pd) : W)) (v := W.tup [.int last, .int (last + (b - a)), .lv (c.map WD.w)]) (B := L.map WD.w)
    rw [hti2] at this
    simp only [List.map_append, List.map_cons, List.map_nil, List.append_assoc, List.singleton_append]
    exact this
def mU (U : List Use) (nm : Str) : Int := ((U.find? fun u => decide (u.a = nm)).map (·.b)).getD 0
def pdA (PL : List Pd) (k : Nat) : Pd := (PL[k]?).getD ⟨0, 0, []⟩
def rowW (r : List Int) : W := .lv (r.map W.int)
def lawD (PL : List Pd) (nm : Str) (N : Nat) : List (List Int) := (dealS (fun j => (pdA PL j).b) (fun j => (mU (pdA PL j).c nm).toNat) N PL.length (begO (fun j => (pdA PL j).a) PL.length)).1
theorem deal_undealt {E : Nat → Int} {M : Nat → Nat} {N i : Nat} : ∀ {O : List (Int × Nat)} {st : List (List Int) × List Nat}, i ∉ O.map (·.2) → (O.foldl (deal1 E M N) st).1[i]? = st.1[i]?
  | [], st, _ => rfl
  | p :: O, st, h => by
    rw [List.map_cons, List.mem_cons, not_or] at h
    rw [List.foldl_cons, deal_undealt h.2]
    show (st.1.set p.2 _)[i]? = _
    rw [List.getElem?_set, if_neg (Ne.symm h.1)]
theorem pdA_at {PL : List Pd} {k : Nat} (h : k < PL.length) : PL[k]? = some (pdA PL k) := by unfold pdA; rw [List.getElem?_eq_getElem h]; rfl
theorem ixP {PL : List Pd} {k : Nat} (h : k < PL.length) (hq : q (.tup [.int (pdA PL k).a, .int (pdA PL k).b, .lv ((pdA PL k).c.map WD.w)]) g) : ixS (.lv (PL.map WD.w)) (.int (k : Int)) g q := ixV_m (f := WD.w) (pdA_at h) hq
theorem c_dealt {PL : List Pd} {nm : Str} {N : Nat} (hl : PL.length ≤ 24) (hN : N ≤ 8) (hU : ∀ p ∈ PL, (p.c.map (·.a)).Nodup ∧ p.c.length ≤ 100 ∧ ∀ u ∈ p.c, 1 ≤ u.b) (hq : q (.lv ((lawD PL nm N).map rowW)) g) : callF P gl (n + 1) 30 [.lv (PL.map WD.w), .str nm, .int (N : Int)] g x q := by
  refine u30 ?_
  refine st_of rfl ?_
  walk_at "ss"
  refine lc_pure (f := WD.w) (c := fun _ => true) (e := fun _ => .lv []) trivial PL [] (fun i _ Q hQ => hQ) (fun i _ _ Q hQ => ?_) (by simp; omega) ?_
  · walk_at "ss"
    exact hQ
  rw [List.nil_append, List.filter_eq_self.mpr (fun _ _ => rfl)]
  have e0 : PL.map (fun _ => W.lv []) = (List.replicate PL.length ([] : List Int)).map rowW := by
    rw [List.map_replicate]
    exact List.map_eq_replicate_iff.mpr fun _ _ => rfl
  rw [e0]
  intro p hp
  refine st_of rfl ?_
  walk_at "ss"
  intro d hd
  have hpd : p ≠ d := ne_free gup_same hd
  have hgd : g d = none := by rw [gup_ne (Ne.symm hpd)] at hd; exact hd
  refine st_of rfl ?_
  walk_at "ss"
  rw [List.length_map]
  refine ⟨small_len (by omega), ?_⟩
  rw [Int.toNat_natCast]
  refine lc_val (f := fun k : Nat => W.int (0 + (k : Nat))) (u := WD.w (α := Int × Int)) (c := fun _ => true) (e := fun k => ((pdA PL k).a, (k : Int))) (List.range PL.length) [] (fun k hk Q hQ => ?_) (fun k hk _ Q hQ => ?_) (by simp; omega) (newF ?_)
  · exact hQ
  · have hk : k < PL.length := List.mem_range.mp hk
    walk_at "ss"
    rw [Int.zero_add]
    refine ixP hk ?_
    walk_at "ss"
    exact hQ
  rw [List.nil_append, List.filter_eq_self.mpr (fun _ _ => rfl)]
  refine sort_w (α := Int × Int) sok_pair (by decide) ?_
  refine newF ?_
  rw [begO_w]
  walk_at "ss"
  refine for_map (f := fun p : Int × Nat => W.tup [.int p.1, .int (p.2 : Int)]) (fun pre post s g3 => ∃ (L : List (List Int)) (o5 o6 o7 o8 o9 o10 o11 o12 : Option W), (L, pre.map (·.2)) = dealS (fun j => (pdA PL j).b) (fun j => (mU (pdA PL j).c nm).toNat) N PL.length pre ∧ Ext g g3 ∧ g3 p = some (.lst (L.map rowW)) ∧ g3 d = some (.lst ((pre.map (·.2)).map fun (k : Nat) => W.int (k : Int))) ∧
    s = [some (.lv (PL.map WD.w)), some (.str nm), some (.int (N : Int)), some (.ref p), some (.ref d), o5, o6, o7, o8, o9, o10, o11, o12, none, none]) ⟨_, none, none, none, none, none, none, none, none, rfl, (Ext.new hp).trans (Ext.new hd), by rw [gup_ne hpd, gup_same], gup_same, rfl⟩ ?_ ?_
  · rintro s g3 ⟨L, o5, o6, o7, o8, o9, o10, o11, o12, eL, X3, hp3, hd3, rfl⟩
    refine ⟨trivial, ?_⟩
    walk_at "ss"
    rw [frzS_lst hp3]
    walk_at "ss"
    rw [frzS_lst (by rw [gdel_ne (Ne.symm hpd)]; exact hd3)]
    refine st_of rfl ?_
    walk_at "ss"
    have eL1 : L = lawD PL nm N := congrArg Prod.fst eL
    refine rt_drop (fun a o e => ?_) (by rw [eL1]; exact hq)
    rw [gdel_ne (fun z => by rw [z, hgd] at e; cases e), gdel_ne (fun z => by rw [z, hp] at e; cases e)]
    exact X3 a o e
  · rintro ⟨b, i⟩ pre post s g3 hx ⟨L, o5, o6, o7, o8, o9, o10, o11, o12, eL, X3, hp3, hd3, rfl⟩ K hK
    obtain ⟨hi, hbi⟩ := begO_mem (show (b, i) ∈ begO (fun j => (pdA PL j).a) PL.length by rw [hx]; simp)
    dsimp only at hi hbi
    have hprel : pre.length ≤ 24 := by have := congrArg List.length hx; rw [begO_len] at this; simp at this; omega
    have eL1 : L = (dealS (fun j => (pdA PL j).b) (fun j => (mU (pdA PL j).c nm).toNat) N PL.length pre).1 := congrArg Prod.fst eL
    have hLl : L.length = PL.length := by rw [eL1, deal_l]
    have hprm : ∀ j ∈ pre.map (·.2), j < PL.length := fun j hj => by
      obtain ⟨z, hz, rfl⟩ := List.mem_map.mp hj
      exact (begO_mem (show z ∈ begO (fun j => (pdA PL j).a) PL.length by rw [hx]; simp [hz])).1
    have hLr : ∀ r ∈ L, r.length ≤ 8 := fun r hr => by
      rw [eL1] at hr
      have := (deal_rows r hr).1; omega
    have hni : i ∉ pre.map (·.2) := by
      have nd := begO_nd (B := fun j => (pdA PL j).a) (m := PL.length)
      rw [hx, List.map_append, List.map_cons] at nd
      exact fun z => (List.nodup_append.mp nd).2.2 i z i List.mem_cons_self rfl
    have hLi : L[i]? = some [] := by
      rw [eL1]
      unfold dealS
      rw [deal_undealt hni]
      rw [List.getElem?_replicate, if_pos hi]
    refine ⟨trivial, rfl, ?_⟩
    show svs _ _ _ _ [some (.lv (PL.map WD.w)), some (.str nm), some (.int (N : Int)), some (.ref p), some (.ref d), some (.int b), some (.int (i : Int)), o7, o8, o9, o10, o11, o12, none, none] _
    refine st_of rfl ?_
    walk_at "ss"
    intro h hh
    have hph : p ≠ h := ne_free hp3 hh
    have hdh : d ≠ h := ne_free hd3 hh
    have hgh : g h = none := ext_z X3 hh
    refine st_of rfl ?_
    walk_at "ss"
    rw [lstAt_of (by rw [gup_ne hdh]; exact hd3)]
    refine for_map (f := fun (k : Nat) => W.int (k : Int)) (fun pr po s g4 => ∃ (o8 o9 : Option W) (kvs : List (Key × W)), (∀ z : Int, (dGet kvs (.inl z)).isSome = true ↔ z ∈ hadOf (fun j => (pdA PL j).b) b L pr) ∧ kvs.length ≤ 8 * pr.length ∧ s = [some (.lv (PL.map WD.w)), some (.str nm), some (.int (N : Int)), some (.ref p), some (.ref d), some (.int b), some (.int (i : Int)), some (.ref h), o8, o9, o10, o11, o12, none, none] ∧ g4 = gup g3 h (.dic false kvs)) ⟨o8, o9, [], fun z => by simp [hadOf, dGet_nil], by simp, rfl, rfl⟩ ?_ ?_
    · rintro s g4 ⟨o8, o9, kvs, hkv, hkl, rfl, rfl⟩
      refine ⟨by rw [gup_ne hdh]; exact hd3, ?_⟩
      generalize hhad : hadOf (fun j => (pdA PL j).b) b L (pre.map (·.2)) = had at *
      refine st_of rfl ?_
      walk_at "ss"
      refine ixP hi ?_
      walk_at "ss"
      obtain ⟨un, ul, ub⟩ := hU _ (List.mem_of_getElem? (pdA_at hi))
      have X4 : Ext g (gup g3 h (.dic false kvs)) := X3.trans (Ext.new hh)
      refine for_map (f := WD.w) (fun pr po s g5 => ∃ (o9 o10 o11 o12 : Option W), Ext g g5 ∧ g5 h = some (.dic false kvs) ∧ g5 d = some (.lst ((pre.map (·.2)).map fun (k : Nat) => W.int (k : Int))) ∧ g5 p = some (.lst ((L.set i ((freeOf N had).take (mU pr nm).toNat)).map rowW)) ∧ s = [some (.lv (PL.map WD.w)), some (.str nm), some (.int (N : Int)), some (.ref p), some (.ref d), some (.int b), some (.int (i : Int)), some (.ref h), o8, o9, o10, o11, o12, none, none]) ?_ ?_ ?_
      · refine ⟨o9, o10, o11, o12, X4, gup_same, by rw [gup_ne hdh]; exact hd3, ?_, rfl⟩
        rw [gup_ne hph, hp3]
        congr 3
        have : (mU [] nm).toNat = 0 := rfl
        rw [this, List.take_zero]
        refine (List.ext_getElem? fun k => ?_)
        rw [List.getElem?_set]
        by_cases c : i = k
        · subst c; rw [if_pos rfl, if_pos (by rw [hLl]; exact hi), hLi]
        · rw [if_neg c]
      · rintro s g5 ⟨o9, o10, o11, o12, X5, hh5, hd5, hp5, rfl⟩
        refine ⟨trivial, ?_⟩
        refine st_of rfl ?_
        walk_at "ss"
        refine ⟨isLst_of hd5, ?_⟩
        refine app_m (f := fun (k : Nat) => W.int (k : Int)) (x := i) hd5 (by simp; omega) rfl ?_
        refine nl_of ?_
        refine hK _ _ ⟨_, _, _, _, _, _, _, _, _, ?_, ?_, by rw [gup_ne hpd]; exact hp5, by rw [gup_same]; simp, rfl⟩
        · rw [dealS_snoc, ← eL]
          unfold deal1
          simp only [List.map_append, List.map_cons, List.map_nil, hhad]
        · intro a o e
          rw [gup_ne (fun z => by rw [z, hgd] at e; cases e)]
          exact X5 a o e
      · rintro ⟨u1, u2, u3⟩ pr po s g5 hx5 ⟨o9, o10, o11, o12, X5, hh5, hd5, hp5, rfl⟩ K2 hK2
        have hu2 := ub ⟨u1, u2, u3⟩ (by rw [hx5]; simp)
        have hnp : ∀ v ∈ pr, v.a ≠ u1 := fun v hv z => by
          have := un
          rw [hx5, List.map_append, List.map_cons] at this
          exact (List.nodup_append.mp this).2.2 v.a (List.mem_map.mpr ⟨v, hv, rfl⟩) u1 List.mem_cons_self z
        dsimp only at hu2
        refine ⟨trivial, rfl, ?_⟩
        show svs _ _ _ _ [some (.lv (PL.map WD.w)), some (.str nm), some (.int (N : Int)), some (.ref p), some (.ref d), some (.int b), some (.int (i : Int)), some (.ref h), o8, o9, some (.str u1), some (.int u2), some (.int u3), none, none] _
        refine st_of rfl ?_
        walk_at "ss"
        by_cases c : u1 = nm
        · rw [if_pos c]
          refine st_of rfl ?_
          walk_at "ss"
          refine ⟨small_len (by omega), ?_⟩
          rw [Int.toNat_natCast]
          refine lc_pure (f := fun k : Nat => W.int (0 + (k : Nat))) (c := fun k => decide ((k : Int) ∉ had)) (e := fun (k : Nat) => W.int (k : Int)) trivial (List.range N) [] (fun k hk Q hQ => ?_) (fun k hk _ Q hQ => ?_) (by simp; omega) ?_
          · walk_at "ss"
            rw [Int.zero_add]
            have : inS true (.int (k : Int)) (.ref h) g5 (fun w g1 => ∃ b, w = W.bl b ∧ Q b g1) := by
              simp only [inS, hh5, dicAt, toKey]
              refine ⟨_, rfl, ?_⟩
              have e : (dGet kvs (.inl (k : Int))).isSome = decide ((k : Int) ∈ had) := by
                rw [Bool.eq_iff_iff, hkv, decide_eq_true_eq]
              rw [e, xor_t, ← decide_not]
              exact hQ
            exact this
          · walk_at "ss"
            rw [Int.zero_add]
            exact hQ
          rw [List.nil_append]
          have ef : ((List.range N).filter fun (k : Nat) => decide ((k : Int) ∉ had)).map (fun (k : Nat) => W.int (k : Int)) = (freeOf N had).map W.int := by
            unfold freeOf rngI
            rw [List.filter_map, List.map_map]
            rfl
          rw [ef]
          obtain ⟨M, rfl⟩ : ∃ M : Nat, u2 = (M : Int) := ⟨u2.toNat, by omega⟩
          intro b2 hb2
          have hpb : p ≠ b2 := ne_free hp5 hb2
          have hdb : d ≠ b2 := ne_free hd5 hb2
          have hhb : h ≠ b2 := ne_free hh5 hb2
          have hgb : g b2 = none := ext_z X5 hb2
          walk_at "ss"
          try simp only [slS, lst_same]
          rw [cutW_to]
          try with_reducible refine newF ?_
          refine (put_lst (by rw [gup_ne hpb]; exact hp5)).mpr ⟨i, ixN_n (by simp; omega), ?_⟩
          refine nl_of ?_
          dsimp only
          refine nl_of ?_
          refine hK2 _ _ ⟨_, _, _, _, ?_, ?_, ?_, ?_, rfl⟩
          · intro a o e
            rw [gup_ne (fun z => by rw [z, hp] at e; cases e), gup_ne (fun z => by rw [z, hgb] at e; cases e)]
            exact X5 a o e
          · rw [gup_ne (fun z => by rw [z, hp5] at hh5; cases hh5), gup_ne hhb]; exact hh5
          · rw [gup_ne (Ne.symm hpd), gup_ne hdb]; exact hd5
          · rw [gup_same]
            congr 2
            have : mU (pr ++ [⟨u1, (M : Int), u3⟩]) nm = (M : Int) := by
              unfold mU
              rw [List.find?_append, List.find?_eq_none.mpr (fun v hv => by simpa using fun z => hnp v hv (z.trans c.symm))]
              simp [c]
            rw [this, Int.toNat_natCast, List.map_set, List.map_set, List.set_set]
            rfl
        · rw [if_neg c]
          refine nl_of (CF := callF P gl n) (gl := gl) ?_
          dsimp only
          refine nl_of ?_
          refine hK2 _ _ ⟨_, _, _, _, X5, hh5, hd5, ?_, rfl⟩
          have : mU (pr ++ [⟨u1, u2, u3⟩]) nm = mU pr nm := by
            unfold mU
            rw [List.find?_append]
            have : [(⟨u1, u2, u3⟩ : Use)].find? (fun u => decide (u.a = nm)) = none := by simp [c]
            rw [this, Option.or_none]
          rw [this]; exact hp5
    · rintro j pr po s g4 hx4 ⟨o8, o9, kvs, hkv, hkl, rfl, rfl⟩ K2 hK2
      have hj := hprm j (by rw [hx4]; simp)
      have hprl : pr.length ≤ 24 := by have := congrArg List.length hx4; simp at this; omega
      have hsn := hadOf_snoc (E := fun j => (pdA PL j).b) (b := b) (L := L) (ah := pr) (j := j)
      refine ⟨by rw [gup_ne hdh]; exact hd3, ?_⟩
      show svs _ _ _ _ [some (.lv (PL.map WD.w)), some (.str nm), some (.int (N : Int)), some (.ref p), some (.ref d), some (.int b), some (.int (i : Int)), some (.ref h), some (.int (j : Int)), o9, o10, o11, o12, none, none] _
      refine st_of rfl ?_
      walk_at "ss"
      refine ixP hj ?_
      walk_at "ss"
      by_cases c : b < (pdA PL j).b
      · rw [if_pos c] at hsn ⊢
        refine st_of rfl ?_
        walk_at "ss"
        have ej : L[j]? = some L[j] := List.getElem?_eq_getElem (by rw [hLl]; exact hj)
        have hjl := hLr _ (List.mem_of_getElem? ej)
        rw [ej, Option.getD_some] at hsn
        generalize L[j] = row at *
        rw [ixL (by rw [gup_ne hph]; exact hp3)]
        refine ⟨rowW row, by rw [atI_n, List.getElem?_map, ej]; rfl, ?_⟩
        refine for_map (f := W.int) (fun p2 p3 s g6 => ∃ (o9 : Option W) (kv2 : List (Key × W)), (∀ z : Int, (dGet kv2 (.inl z)).isSome = true ↔ z ∈ hadOf (fun j => (pdA PL j).b) b L pr ++ p2) ∧ kv2.length ≤ 8 * pr.length + p2.length ∧ s = [some (.lv (PL.map WD.w)), some (.str nm), some (.int (N : Int)), some (.ref p), some (.ref d), some (.int b), some (.int (i : Int)), some (.ref h), some (.int (j : Int)), o9, o10, o11, o12, none, none] ∧ g6 = gup g3 h (.dic false kv2)) ⟨o9, kvs, by simpa using hkv, by simpa using hkl, rfl, rfl⟩ ?_ ?_
        · rintro s g6 ⟨o9, kv2, hkv2, hkl2, rfl, rfl⟩
          refine ⟨trivial, ?_⟩
          refine nl_of (CF := callF P gl n) (gl := gl) ?_
          dsimp only
          refine nl_of ?_
          exact hK2 _ _ ⟨_, _, kv2, fun z => by rw [hsn]; exact hkv2 z, by simp; omega, rfl, rfl⟩
        · rintro z p2 p3 s g6 hx6 ⟨o9, kv2, hkv2, hkl2, rfl, rfl⟩ K3 hK3
          have hp2l : p2.length ≤ 8 := by have := congrArg List.length hx6; simp at this; omega
          refine ⟨trivial, ?_⟩
          show svs _ _ _ _ [some (.lv (PL.map WD.w)), some (.str nm), some (.int (N : Int)), some (.ref p), some (.ref d), some (.int b), some (.int (i : Int)), some (.ref h), some (.int (j : Int)), some (.int z), o10, o11, o12, none, none] _
          refine st_of rfl ?_
          walk_at "ss"
          simp only [putS, gup_same, toKey]
          refine ⟨small_line (by omega), ?_⟩
          rw [gup_gup]
          refine nl_of ?_
          have hdl := dPut_len (l := kv2) (k := (.inl z : Key)) (v := W.bl true)
          refine hK3 _ _ ⟨_, _, fun y => ?_, by simp; omega, rfl, rfl⟩
          rw [dGet_put, ← List.append_assoc, List.mem_append, List.mem_singleton, ← hkv2 y]
          by_cases e : (Sum.inl y : Key) = .inl z
          · rw [if_pos e]; cases e; simp
          · rw [if_neg e]
            exact ⟨.inl, fun h => h.resolve_right (fun k => e (by rw [k]))⟩
      · rw [if_neg c] at hsn ⊢
        refine nl_of (CF := callF P gl n) (gl := gl) ?_
        dsimp only
        refine nl_of ?_
        exact hK2 _ _ ⟨_, _, kvs, fun z => by rw [hsn, List.append_nil]; exact hkv z, by simp; omega, rfl, rfl⟩
end
theorem many_sum {nm : Str} : ∀ {us : List Use}, (us.map (·.a)).Nodup → (((us.find? fun v => decide (v.a = nm)).map (·.b)).getD 0) = sumU nm us
  | [], _ => rfl
  | u :: us, hn => by
    rw [List.map_cons, List.nodup_cons] at hn
    by_cases e : u.a = nm
    · have h2 : us.filter (fun v => decide (v.a = nm)) = [] := by
        rw [List.filter_eq_nil_iff]
        intro v hv z
        have : v.a = nm := by simpa using z
        exact hn.1 (by rw [e, ← this]; exact List.mem_map_of_mem hv)
      unfold sumU
      rw [List.find?_cons_of_pos (by simpa using e), List.filter_cons_of_pos (by simpa using e), h2]
      simp
    · have ih := many_sum (nm := nm) hn.2
      unfold sumU at ih ⊢
      rw [List.find?_cons_of_neg (by simpa using e), List.filter_cons_of_neg (by simpa using e)]
      exact ih
def runsQ (A t : Int) (PL : List Pd) : List Run := PL.map fun p => ⟨A + t * p.a, A + t * p.b, 0⟩
def tasksQ (t : Int) (PL : List Pd) : List (List Way) := PL.map fun p => [⟨1, 5 * t, p.c⟩]
theorem le_scale {t a b : Int} (ht : 1 ≤ t) : t * a ≤ t * b ↔ a ≤ b := by
  constructor
  · intro h; exact Int.le_of_mul_le_mul_left h (by omega)
  · intro h; exact Int.mul_le_mul_of_nonneg_left h (by omega)
theorem lt_scale {t a b : Int} (ht : 1 ≤ t) : t * a < t * b ↔ a < b := by
  constructor
  · intro h; exact Int.lt_of_mul_lt_mul_left h (by omega)
  · intro h; exact Int.mul_lt_mul_of_pos_left h (by omega)
theorem runsQ_len {A t : Int} {PL : List Pd} : (runsQ A t PL).length = PL.length := by simp [runsQ]
theorem rnQ {A t : Int} {PL : List Pd} {k : Nat} (h : k < PL.length) : rn (runsQ A t PL) k = ⟨A + t * (pdA PL k).a, A + t * (pdA PL k).b, 0⟩ := by
  unfold rn runsQ
  rw [List.getElem?_map, pdA_at h]; rfl
theorem wyQ {A t : Int} {PL PL' : List Pd} {k : Nat} (h : k < PL.length) (h' : k < PL'.length) : wy (tasksQ t PL) (runsQ A t PL') k = ⟨1, 5 * t, (pdA PL k).c⟩ := by
  unfold wy
  rw [rnQ h']
  unfold tasksQ
  rw [List.getElem?_map, pdA_at h]
  rfl
theorem later_b {T : List (Str × Int)} (hT : ToolOk T) : ∀ {PL : List Pd}, (∀ p ∈ PL, (0 ≤ p.a ∧ p.a < p.b) ∧ p.b ≤ p.a + 5 ∧ UsesH T p.c) →
    (0 ≤ (laterP PL).2) ∧ (∀ p ∈ (laterP PL).1, (0 ≤ p.a ∧ p.a < p.b) ∧ (p.b ≤ p.a + 5 ∧ p.b ≤ (laterP PL).2) ∧ UsesH T p.c) ∧ ∀ nm ∈ T.map (·.1), ∀ t : Int, ldI (laterP PL).1 nm t ≤ numT T nm
  | [], _ => ⟨Int.le_refl _, by simp [laterP], fun nm hn t => by have := num_b hT hn; show (0 : Int) ≤ _; omega⟩
  | p :: PL, h => by
    obtain ⟨h1, h2, h3⟩ := later_b hT (PL := PL) fun q hq => h q (List.mem_cons_of_mem _ hq)
    obtain ⟨p1, p2, p3⟩ := h p List.mem_cons_self
    refine ⟨by show 0 ≤ (laterP PL).2 + (p.b - p.a); omega, fun q hq => ?_, fun nm hn t => ?_⟩
    · rcases List.mem_cons.mp hq with rfl | hq
      · exact ⟨⟨h1, show (laterP PL).2 < (laterP PL).2 + (p.b - p.a) by omega⟩, ⟨show (laterP PL).2 + (p.b - p.a) ≤ (laterP PL).2 + 5 by omega, Int.le_refl _⟩, p3⟩
      · obtain ⟨a1, a2, a3⟩ := h2 q hq
        exact ⟨a1, ⟨a2.1, show q.b ≤ (laterP PL).2 + (p.b - p.a) by omega⟩, a3⟩
    · have e : ldI (laterP (p :: PL)).1 nm t = (if (laterP PL).2 ≤ t ∧ t < (laterP PL).2 + (p.b - p.a) then sumU nm p.c else 0) + ldI (laterP PL).1 nm t := rfl
      rw [e]
      by_cases c : (laterP PL).2 ≤ t ∧ t < (laterP PL).2 + (p.b - p.a)
      · rw [if_pos c, ldI_late fun q hq => by have := h2 q hq; omega]
        by_cases c2 : nm ∈ p.c.map (·.a)
        · obtain ⟨u, hu, rfl⟩ := List.mem_map.mp c2
          rw [sumU_at p3.nd hu]
          have := use_name (p3.u u hu).1
          omega
        · rw [sumU_out c2]
          have := num_b hT hn
          omega
      · rw [if_neg c]
        have := h3 nm hn t
        omega
structure FitQ (T : List (Str × Int)) (A t : Int) (PL PL' : List Pd) : Prop where
  hT : ToolOk T
  tl : T.length ≤ 3
  t : 1 ≤ t ∧ t ≤ 100000000
  a : 0 ≤ A
  n : PL.length ≤ 24
  l : PL'.length = PL.length
  c : ∀ k, (pdA PL' k).c = (pdA PL k).c
  b : ∀ p ∈ PL', (0 ≤ p.a ∧ p.a < p.b) ∧ p.b ≤ p.a + 5 ∧ UsesH T p.c
  ld : ∀ nm ∈ T.map (·.1), ∀ t : Int, ldI PL' nm t ≤ numT T nm
section
variable {T : List (Str × Int)} {A t : Int} {PL PL' : List Pd}
theorem FitQ.uses (F : FitQ T A t PL PL') {k : Nat} (h : k < PL.length) : UsesH T (pdA PL k).c := by
  rw [← F.c k]
  exact (F.b _ (List.mem_of_getElem? (pdA_at (by rw [F.l]; exact h)))).2.2
theorem FitQ.way (F : FitQ T A t PL PL') : ∀ ws ∈ tasksQ t PL, (ws.length = 1 ∨ ws.length = 2) ∧ ∀ w ∈ ws, WayOk T w := by
  intro ws hws
  obtain ⟨p, hp, rfl⟩ := List.mem_map.mp hws
  refine ⟨.inl rfl, fun w hw => ?_⟩
  rw [List.mem_singleton.mp hw]
  obtain ⟨k, hk⟩ := List.mem_iff_getElem?.mp hp
  have hkl := (List.getElem?_eq_some_iff.mp hk).1
  have e : pdA PL k = p := by have := pdA_at hkl; rw [hk] at this; exact (Option.some.inj this).symm
  have U := F.uses hkl
  rw [e] at U
  have := F.t
  exact ⟨⟨Int.le_refl _, show (1 : Int) ≤ 5 * t by omega, show 5 * t ≤ 1000000000 by omega⟩, U.nd, fun u hu => (U.u u hu).1, by have := U.l; show p.c.length ≤ 1000; omega⟩
theorem fit_of {runs : List Run} (hl : runs.length = PL.length) (hn : PL.length ≤ 24) (h0 : ∀ r ∈ runs, r.c = 0) : Fit (tasksQ t PL) runs := by
  refine ⟨by rw [hl]; simp [tasksQ], by omega, fun i hi => ?_⟩
  have e1 := List.getElem?_eq_getElem hi
  refine ⟨_, [⟨1, 5 * t, (pdA PL i).c⟩], ⟨1, 5 * t, (pdA PL i).c⟩, e1, ?_, 0, h0 _ (List.getElem_mem hi), Nat.zero_lt_one, rfl⟩
  unfold tasksQ
  rw [List.getElem?_map, pdA_at (by omega)]; rfl
theorem netA_of {g : G} {h tp : Addr} {runs : List Run} {S : List Int} (hl : runs.length = PL.length) (hn : PL.length ≤ 24) (h0 : ∀ r ∈ runs, r.c = 0) (hg : g h = some (.ins cN (netF tp (tasksQ t PL) [] [] 0))) (ht : g tp = some (.dic false (toolK T))) (hT : T.length ≤ 3) (hS : S.Pairwise (· < ·)) (hSm : ∀ z, z ∈ S ↔ z ∈ runs.map (·.a)) :
    NetA g h tp (tasksQ t PL) [] [] 0 T runs [] S := ⟨hg, ht, fit_of hl hn h0, rfl, by simp, by simp, by simp, by simp, by simp, by omega, by omega, hS, hSm⟩
theorem FitQ.load (F : FitQ T A t PL PL') {nm : Str} {s : Int} : ∀ k, k ≤ PL'.length → inU (tasksQ t PL) (runsQ A t PL') nm (A + t * s) k = ldI (PL'.take k) nm s
  | 0, _ => by simp [inU, ldI]
  | k + 1, hk => by
    have ih := F.load (nm := nm) (s := s) k (by omega)
    have hk' : k < PL'.length := by omega
    have hk2 : k < PL.length := by rw [← F.l]; exact hk'
    have et : PL'.take (k + 1) = PL'.take k ++ [pdA PL' k] := by rw [List.take_succ, pdA_at hk']; rfl
    rw [inU_s, ih, et, ldI_snoc, rnQ hk', wyQ hk2 hk']
    congr 1
    have ea : act (⟨A + t * (pdA PL' k).a, A + t * (pdA PL' k).b, 0⟩ : Run) (A + t * s) = decide ((pdA PL' k).a ≤ s ∧ s < (pdA PL' k).b) := by
      unfold act
      have h1 := le_scale (a := (pdA PL' k).a) (b := s) F.t.1
      have h2 := lt_scale (a := s) (b := (pdA PL' k).b) F.t.1
      rw [Bool.eq_iff_iff]
      simp only [Bool.and_eq_true, decide_eq_true_eq]
      omega
    rw [ea]
    have em : manyOf (⟨1, 5 * t, (pdA PL k).c⟩ : Way) nm = sumU nm (pdA PL' k).c := by
      rw [F.c k]
      exact many_sum (F.uses hk2).nd
    rw [em]
    by_cases c : (pdA PL' k).a ≤ s ∧ s < (pdA PL' k).b
    · rw [if_pos c, if_pos (decide_eq_true c)]
    · rw [if_neg c, if_neg (by simpa using c)]
theorem FitQ.bad (F : FitQ T A t PL PL') {k : Nat} (hk : k < PL.length) : badT (tasksQ t PL) (runsQ A t PL') k = false := by
  have hk' : k < PL'.length := by rw [F.l]; exact hk
  unfold badT
  rw [rnQ hk', wyQ hk hk']
  obtain ⟨b1, b2, _⟩ := F.b _ (List.mem_of_getElem? (pdA_at hk'))
  have ht := F.t
  have h0 := F.a
  have h1 : 0 ≤ t * (pdA PL' k).a := Int.mul_nonneg (by omega) (by omega)
  have h2 : t * (pdA PL' k).b - t * (pdA PL' k).a = t * ((pdA PL' k).b - (pdA PL' k).a) := by rw [Int.mul_sub]
  have h3 : t * 1 ≤ t * ((pdA PL' k).b - (pdA PL' k).a) := (le_scale ht.1).mpr (by omega)
  have h4 : t * ((pdA PL' k).b - (pdA PL' k).a) ≤ t * 5 := (le_scale ht.1).mpr (by omega)
  rw [decide_eq_false_iff_not]
  dsimp only
  omega
theorem heat3 {w : Way} {nm : Str} {a : Int} (h : ∀ u ∈ w.c, u.c = 3) (e : heatOf w nm = some a) : a = 3 := by
  unfold heatOf useOf at e
  cases e1 : w.c.find? (fun u => decide (u.a = nm)) with
  | none => rw [e1] at e; cases e
  | some u =>
    rw [e1] at e
    have e : u.c = a := by simpa using e
    rw [← e]; exact h u (List.mem_of_find?_eq_some e1)
theorem FitQ.two (F : FitQ T A t PL PL') {nm : Str} {i j : Nat} (hi : i < PL.length) (hj : j < PL.length) : twoH (tasksQ t PL) (runsQ A t PL') nm i j = false := by
  unfold twoH
  rw [wyQ hi (by rw [F.l]; exact hi), wyQ hj (by rw [F.l]; exact hj)]
  cases e1 : heatOf (⟨1, 5 * t, (pdA PL i).c⟩ : Way) nm with
  | none => simp
  | some a =>
    cases e2 : heatOf (⟨1, 5 * t, (pdA PL j).c⟩ : Way) nm with
    | none => simp
    | some b =>
      have h1 := heat3 (fun u hu => ((F.uses hi).u u hu).2) e1
      have h2 := heat3 (fun u hu => ((F.uses hj).u u hu).2) e2
      simp [h1, h2]
theorem FitQ.none (F : FitQ T A t PL PL') {S : List Int} (hSm : ∀ z, z ∈ S ↔ z ∈ (runsQ A t PL').map (·.a)) : brA (tasksQ t PL) [] [] T (runsQ A t PL') [] S = [] := by
  have hl : (runsQ A t PL').length = PL.length := by rw [runsQ_len, F.l]
  have e1 : tB (tasksQ t PL) (runsQ A t PL') = [] := by
    unfold tB pk
    rw [List.map_eq_nil_iff, List.filter_eq_nil_iff]
    intro k hk
    rw [List.mem_range, hl] at hk
    rw [F.bad hk]; simp
  have e2 : ∀ names : List Str, (∀ nm ∈ names, nm ∈ T.map (·.1)) → tR (tasksQ t PL) (runsQ A t PL') T S names = [] := fun names hn => by
    unfold tR
    rw [List.flatMap_eq_nil_iff]
    intro nm hnm
    unfold tR1
    rw [List.map_eq_nil_iff, List.filter_eq_nil_iff]
    intro z hz
    obtain ⟨r, hr, rfl⟩ := List.mem_map.mp ((hSm z).mp hz)
    obtain ⟨p, hp, rfl⟩ := List.mem_map.mp hr
    have := F.load (nm := nm) (s := p.a) PL'.length (Nat.le_refl _)
    rw [List.take_length] at this
    rw [runsQ_len]
    show ¬ decide (_ < inU _ _ _ (A + t * p.a) _) = true
    rw [this]
    have := F.ld nm (hn nm hnm) p.a
    simp
    omega
  have e3 : ∀ names : List Str, hR (tasksQ t PL) (runsQ A t PL') names = [] := fun names => by
    unfold hR
    rw [List.flatMap_eq_nil_iff]
    intro nm _
    unfold hR1
    rw [List.flatMap_eq_nil_iff]
    intro i hi
    rw [List.mem_range, hl] at hi
    unfold hR2 pk
    rw [List.map_eq_nil_iff, List.filter_eq_nil_iff]
    intro k hk
    rw [List.mem_range, hl] at hk
    rw [F.two hi (by omega)]; simp
  unfold brA
  rw [e1, e2 _ (fun nm h => srt_memT.mp h), e3]
  rfl
theorem br_long {runs : List Run} {S : List Int} {k : Nat} (hk : k < runs.length) (hb : badT (tasksQ t PL) runs k = true) : brA (tasksQ t PL) [] [] T runs [] S ≠ [] := by
  intro e
  unfold brA at e
  rw [List.append_assoc] at e
  have e := (List.append_eq_nil_iff.mp e).1
  rw [List.map_eq_nil_iff] at e
  have e := (List.append_eq_nil_iff.mp (List.append_eq_nil_iff.mp e).1).1
  unfold tB pk at e
  rw [List.map_eq_nil_iff, List.filter_eq_nil_iff] at e
  exact e k (List.mem_range.mpr hk) hb
theorem FitQ.rows (F : FitQ T A t PL PL') (nm : Str) : rowsD (tasksQ t PL) (runsQ A t PL') T nm = lawD PL' nm (numT T nm).toNat := by
  unfold rowsD lawD
  have hf : ∀ a b : Int, a < b ↔ A + t * a < A + t * b := fun a b => by have := lt_scale (a := a) (b := b) F.t.1; omega
  rw [runsQ_len, begO_map hf (B := fun j => (pdA PL' j).a) fun k hk => by rw [rnQ hk]]
  refine congrArg Prod.fst (dealS_map hf (fun p hp => ⟨(begO_mem hp).1, ?_⟩) fun j hj => by rw [rnQ hj])
  have h1 := (begO_mem hp).1
  have h2 : p.2 < PL.length := by rw [← F.l]; exact h1
  rw [wyQ h2 h1, F.c]
  rfl
theorem FitQ.mnn (F : FitQ T A t PL PL') {runs : List Run} (nm : Str) (k : Nat) : 0 ≤ manyOf (wy (tasksQ t PL) runs k) nm := by
  refine wy_all (Pr := fun w => 0 ≤ manyOf w nm) (fun ws hws w hw => many_nn ((F.way ws hws).2 w hw)) ?_ k
  show (0 : Int) ≤ 0
  exact Int.le_refl _
end
structure RowsB (g0 g : G) (kvs : List (Str × Addr)) (d : Addr) (pre post : List Str) (B : Nat) : Prop where
  gd : g d = some (.dic false (kU kvs))
  fd : g0 d = none
  ev : ∀ e ∈ kvs, g0 e.2 = none ∧ e.2 ≠ d ∧ (e.1 ∈ post → ∃ as : List Addr, as.length ≤ 24 ∧ g e.2 = some (.lst (as.map W.ref)) ∧ ∀ a ∈ as, g0 a = none ∧ a ≠ d ∧ (∀ e' ∈ kvs, a ≠ e'.2) ∧ ∃ r : List Int, g a = some (.lst (r.map W.int)) ∧ r.length ≤ B)
  n : (kvs.map (·.1)).Nodup
  na : (kvs.map (·.2)).Nodup
theorem Told.rowsB {g0 g : G} {d : Addr} {names : List Str} {R : Str → List (List Int)} (h : Told g0 g d names R) (nd : names.Nodup) (hR : ∀ nm, (R nm).length ≤ 24 ∧ ∀ r ∈ R nm, r.length ≤ 8) : ∃ kvs, kvs.map (·.1) = names ∧ RowsB g0 g kvs d [] names 8 := by
  obtain ⟨kvs, e1, e2, ena, e3⟩ := h.ex
  refine ⟨kvs, e2, e1, h.fd, fun e he => ?_, by rw [e2]; exact nd, ena⟩
  obtain ⟨h1, as, h2, h3⟩ := e3 e he
  refine ⟨h2.fp, h1, fun _ => ⟨as, by rw [h2.n]; exact (hR _).1, h2.l, fun a ha => ?_⟩⟩
  obtain ⟨i, hi, ei⟩ := List.mem_iff_getElem.mp ha
  obtain ⟨k1, k2, k3⟩ := h2.r i a (by rw [List.getElem?_eq_getElem hi, ei])
  refine ⟨k2, (h3 a ha).1, (h3 a ha).2, _, k1, ?_⟩
  cases ee : (R e.1)[i]? with
  | none => simp
  | some r => exact (hR e.1).2 r (List.mem_of_getElem? ee)
section
variable {g : G} {x : XK3} {q : VK3} {n : Nat} {h tp : Addr} {T : List (Str × Int)} {A t : Int} {PL : List Pd}
theorem rowsD_b {nm : Str} {N : Nat} (hl : PL.length ≤ 24) (hN : N ≤ 8) : (lawD PL nm N).length ≤ 24 ∧ ∀ r ∈ lawD PL nm N, r.length ≤ 8 := by
  unfold lawD
  refine ⟨by rw [deal_l]; exact hl, fun r hr => ?_⟩
  have := (deal_rows r hr).1
  omega
theorem numT_le (hT : ToolOk T) (nm : Str) : (numT T nm).toNat ≤ 8 := by
  by_cases c : nm ∈ T.map (·.1)
  · have := num_b hT c; omega
  · unfold numT
    rw [dGet_none c]
    decide
theorem c_lrefused {runs : List Run} (hT : ToolOk T) (hT3 : T.length ≤ 3) (hl : runs.length = PL.length) (hn : PL.length ≤ 24) (h0 : ∀ r ∈ runs, r.c = 0) (hg : g h = some (.ins cN (netF tp (tasksQ t PL) [] [] 0))) (ht : g tp = some (.dic false (toolK T)))
    (hm : ∀ nm k, 0 ≤ manyOf (wy (tasksQ t PL) runs k) nm) {k : Nat} (hk : k < runs.length) (hb : badT (tasksQ t PL) runs k = true) (hq : q (.bl true) g) : callF P gl (n + 7) 32 [.ref h, planW runs []] g x q := by
  obtain ⟨S, hS, hSm⟩ := ex_rise (runs.map (·.a))
  refine u32 ?_
  show svs _ _ _ _ [some (.ref h), some (.tup [.lv (runs.map WD.w), .lv []]), none] g
  refine st_of rfl ?_
  walk_at "ss"
  refine st_of rfl ?_
  walk_at "ss"
  refine c_roster hT (netA_of hl hn h0 hg ht hT3 hS hSm) hm (fun _ => ?_) fun z => absurd z (br_long hk hb)
  refine ⟨true, rfl, ?_⟩
  rw [if_pos rfl]
  intro a ha
  refine st_of rfl ?_
  walk_at "ss"
  refine nl_of (CF := callF P gl (n + 6)) (gl := ⟨gl.v, some (a, 0, none), gl.ocs⟩) ?_
  refine st_of rfl ?_
  walk_at "ss"
  first | exact .inl hq | exact hq
end
theorem dueK_put {pre : List Str} {R : Str → List (List Int)} {nm : Str} (h : nm ∉ pre) : dPut (dueK pre R) (.inr nm) (.lv ((R nm).map rowW)) = dueK (pre ++ [nm]) R := by
  unfold dPut
  rw [any_dGet, dGet_none (by simpa [dueK] using h), Option.isSome_none, if_neg (by decide)]
  simp [dueK, rowW]
theorem FitQ.same {T : List (Str × Int)} {A t : Int} {PL : List Pd} {last : Int} (hT : ToolOk T) (tl : T.length ≤ 3) (ht : 1 ≤ t ∧ t ≤ 100000000) (ha : 0 ≤ A) (hn : PL.length ≤ 24) (B : PlacedB T PL last) : FitQ T A t PL PL ∧ FitQ T A t PL (laterP PL).1 := by
  have hb : ∀ p ∈ PL, (0 ≤ p.a ∧ p.a < p.b) ∧ p.b ≤ p.a + 5 ∧ UsesH T p.c := fun p hp => by
    obtain ⟨h1, h2, h3⟩ := B.b p hp
    exact ⟨h1, h2.1, h3⟩
  obtain ⟨_, l2, l3⟩ := later_b hT hb
  refine ⟨⟨hT, tl, ht, ha, hn, rfl, fun _ => rfl, hb, B.c⟩, ⟨hT, tl, ht, ha, hn, later_len, fun k => ?_, fun p hp => ?_, l3⟩⟩
  · have := later_c (PL := PL) (k := k)
    unfold pdA
    cases e1 : (laterP PL).1[k]? with
    | none =>
      rw [e1] at this
      cases e2 : PL[k]? with
      | none => rfl
      | some p => rw [e2] at this; cases this
    | some p =>
      rw [e1] at this
      cases e2 : PL[k]? with
      | none => rw [e2] at this; cases this
      | some p' => rw [e2] at this; simpa using this
  · obtain ⟨h1, h2, h3⟩ := l2 p hp
    exact ⟨h1, h2.1, h3⟩
theorem later_bd {T : List (Str × Int)} {PL : List Pd} {last : Int} (B : PlacedB T PL last) (hn : PL.length ≤ 24) : ∀ p ∈ (laterP PL).1, (0 ≤ p.a ∧ p.a ≤ 1000) ∧ (0 ≤ p.b ∧ p.b ≤ 1000) := by
  have : ∀ {L : List Pd}, (∀ p ∈ L, (0 ≤ p.a ∧ p.a < p.b) ∧ p.b ≤ p.a + 5) → (0 ≤ (laterP L).2 ∧ (laterP L).2 ≤ 5 * L.length) ∧ ∀ p ∈ (laterP L).1, (0 ≤ p.a ∧ p.a ≤ 5 * L.length) ∧ 0 ≤ p.b ∧ p.b ≤ 5 * L.length := by
    intro L
    induction L with
    | nil => intro _; exact ⟨by decide, by simp [laterP]⟩
    | cons p L ih =>
      intro h
      obtain ⟨h1, h2⟩ := ih fun q hq => h q (List.mem_cons_of_mem _ hq)
      obtain ⟨p1, p2⟩ := h p List.mem_cons_self
      have e : (laterP (p :: L)).2 = (laterP L).2 + (p.b - p.a) := rfl
      refine ⟨by rw [e, List.length_cons]; omega, fun q hq => ?_⟩
      rw [List.length_cons]
      rcases List.mem_cons.mp hq with rfl | hq
      · show (0 ≤ (laterP L).2 ∧ (laterP L).2 ≤ _) ∧ 0 ≤ (laterP L).2 + (p.b - p.a) ∧ (laterP L).2 + (p.b - p.a) ≤ _
        omega
      · have := h2 q hq; omega
  intro p hp
  have h2 := (this fun p hp => ⟨(B.b p hp).1, (B.b p hp).2.1.1⟩).2 p hp
  omega
structure LawC (T : List (Str × Int)) (A t : Int) (PL : List Pd) (R1 R2 : Str → List (List Int)) (last : Int) : Prop where
  F1 : FitQ T A t PL PL
  F2 : FitQ T A t PL (laterP PL).1
  B : PlacedB T PL last
  r1 : rowsD (tasksQ t PL) (runsQ A t PL) T = R1
  r2 : rowsD (tasksQ t PL) (runsQ A t (laterP PL).1) T = R2
  h1 : ∀ nm, (R1 nm).length ≤ 24 ∧ ∀ r ∈ R1 nm, r.length ≤ 8
  h2 : ∀ nm, (R2 nm).length ≤ 24 ∧ ∀ r ∈ R2 nm, r.length ≤ 8
structure HeapC (g : G) (h tp td d1 d2 : Addr) (T : List (Str × Int)) (t : Int) (PL : List Pd) (R1 R2 : Str → List (List Int)) : Prop where
  n : g h = some (.ins cN (netF tp (tasksQ t PL) [] [] 0))
  p : g tp = some (.dic false (toolK T))
  t : g td = some (.dic false (toolK T))
  a : g d1 = some (.dic false (dueK (T.map (·.1)) R1))
  b : g d2 = some (.dic false (dueK (T.map (·.1)) R2))
theorem HeapC.ext {g g' : G} {h tp td d1 d2 : Addr} {T : List (Str × Int)} {t : Int} {PL : List Pd} {R1 R2 : Str → List (List Int)} (H : HeapC g h tp td d1 d2 T t PL R1 R2) (x : Ext g g') : HeapC g' h tp td d1 d2 T t PL R1 R2 := ⟨x _ _ H.n, x _ _ H.p, x _ _ H.t, x _ _ H.a, x _ _ H.b⟩
theorem runsQ_c {A t : Int} {QL : List Pd} : ∀ r ∈ runsQ A t QL, r.c = 0 := fun r hr => by obtain ⟨p, _, rfl⟩ := List.mem_map.mp hr; rfl
section
variable {g0 g6 : G} {h tp td d1 d2 d : Addr} {T : List (Str × Int)} {A t last : Int} {PL : List Pd} {R1 R2 : Str → List (List Int)} {ns : List Int} {cm : Nat} {o11 o14 : Option W}
theorem law_tail (C : LawC T A t PL R1 R2 last) (H : HeapC g6 h tp td d1 d2 T t PL R1 R2) {D : Ends3} (hD : D.rt = rtS g0 (fun v _ => v = .bl true)) : svs (callF P gl 7) gl b33_23 D [some (.scr (ns.map W.int)), some (.ref td), some (.int (cm : Int)), some (.lv (PL.map WD.w)), some (.int t), some (.int A), some (.lv ((laterP PL).1.map WD.w)), some (.lv ((runsQ A t PL).map WD.w)), some (.ref h), some (.ref d1), some (.ref d2), o11, some (planW (runsQ A t PL) []), some (.ref d), o14, none, none, none, none] g6 := by
  obtain ⟨F1, F2, B, eR1, eR2, hR1, hR2⟩ := C
  obtain ⟨hn6, htp6, _, E1, E2⟩ := H
  have hT := F1.hT
  have hTl := F1.tl
  have hPL := F1.n
  have htb := F1.t
  have hnd := hT.nd
  have hTn : (T.map (·.1)).length ≤ 12 := by simp; omega
  have rl1 : (runsQ A t PL).length = PL.length := runsQ_len
  have rl2 : (runsQ A t (laterP PL).1).length = PL.length := by rw [runsQ_len, later_len]
  have rc : ∀ (QL : List Pd), ∀ r ∈ runsQ A t QL, r.c = 0 := fun QL => runsQ_c
  obtain ⟨S1, hS1, hSm1⟩ := ex_rise ((runsQ A t PL).map (·.a))
  obtain ⟨S2, hS2, hSm2⟩ := ex_rise ((runsQ A t (laterP PL).1).map (·.a))
  refine st_of rfl ?_
  walk_at "ss"
  refine lc_val (f := WD.w) (u := WD.w) (c := fun _ => true) (e := fun p : Pd => (⟨A + t * p.a, A + t * p.b, 0⟩ : Run)) (laterP PL).1 [] (fun p hp Q hQ => hQ) (fun p hp _ Q hQ => ?_) (by simp [later_len]; omega) (newF ?_)
  · have hbd := later_bd B hPL p hp
    obtain ⟨p1, p2, p3⟩ := p
    rw [wdP]
    dsimp only at hbd
    walk_at "ss"
    refine mul_of (mul_sm (by omega) (by omega)) ?_
    walk_at "ss"
    refine mul_of (mul_sm (by omega) (by omega)) ?_
    walk_at "ss"
    exact hQ
  rw [List.nil_append, List.filter_eq_self.mpr (fun _ _ => rfl)]
  show svs _ _ _ _ [some (.scr (ns.map W.int)), some (.ref td), some (.int (cm : Int)), some (.lv (PL.map WD.w)), some (.int t), some (.int A), some (.lv ((laterP PL).1.map WD.w)), some (.lv ((runsQ A t PL).map WD.w)), some (.ref h), some (.ref d1), some (.ref d2), o11, some (planW (runsQ A t PL) []), some (.ref d), o14, some (.lv ((runsQ A t (laterP PL).1).map WD.w)), none, none, none] _
  refine st_of rfl ?_
  walk_at "ss"
  refine c_roster (tasks := tasksQ t PL) (A := []) (prs := []) (m := 0) (T := T) (runs := runsQ A t (laterP PL).1) (times := []) (tp := tp) hT (netA_of rl2 hPL (rc _) hn6 htp6 hTl hS2 hSm2) (fun nm k => F1.mnn nm k) (fun z => absurd (F2.none hSm2) z) fun _ dd g7 X7 T7 => ?_
  rw [eR2] at T7
  refine c_told hnd hTn hR2 T7 (X7 _ _ E2) E2 ?_
  walk_at "ss"
  have hn7 := X7 _ _ hn6
  have htp7 := X7 _ _ htp6
  have G1 := X7 _ _ E1
  refine c_roster (tasks := tasksQ t PL) (A := []) (prs := []) (m := 0) (T := T) (runs := runsQ A t PL) (times := []) (tp := tp) hT (netA_of rl1 hPL (rc PL) hn7 htp7 hTl hS1 hSm1) (fun nm k => F1.mnn nm k) (fun z => absurd (F1.none hSm1) z) fun _ d8 g8 X8 T8 => ?_
  rw [eR1] at T8
  refine c_told hnd hTn hR1 T8 (X8 _ _ G1) G1 ?_
  walk_at "ss"
  refine nl_of (CF := callF P gl 7) (gl := gl) ?_
  have hn8 := X8 _ _ hn7
  have htp8 := X8 _ _ htp7
  refine st_of rfl ?_
  walk_at "ss"
  refine eqS_w (α := List Run) (x := runsQ A t PL) (y := []) (by decide) ?_
  walk_at "ss"
  by_cases c0 : runsQ A t PL = []
  · rw [if_pos c0]
    refine st_of rfl ?_
    walk_at "ss"
    rw [hD]
    exact .inl rfl
  · rw [if_neg c0]
    refine nl_of (CF := callF P gl 7) (gl := gl) ?_
    have hpos : 0 < (runsQ A t PL).length := List.length_pos_iff.mpr c0
    refine st_of rfl ?_
    walk_at "ss"
    refine c_cell (k := 3) ?_
    walk_at "ss"
    rw [List.length_map]
    refine mod_of (by omega) ?_
    obtain ⟨k, hk, ek2⟩ := mod_nat (ns.getD 3 0) (m := (runsQ A t PL).length) hpos
    rw [ek2]
    have hkP : k < PL.length := by omega
    refine st_of rfl ?_
    walk_at "ss"
    rw [cutW_to]
    try with_reducible refine newF ?_
    walk_at "ss"
    refine ixR0 hk ?_
    walk_at "ss"
    refine ixR0 hk ?_
    walk_at "ss"
    try with_reducible refine newF ?_
    try walk_at "ss"
    refine ⟨sl_le (by simp; omega), newF ?_⟩
    rw [show (k : Int) + 1 = ((k + 1 : Nat) : Int) by omega, cutW_from]
    refine newF ?_
    walk_at "ss"
    refine ⟨sl_le (by simp; omega), newF ?_⟩
    have er : ((runsQ A t PL).take k).map WD.w ++ [W.tup [.int (rn (runsQ A t PL) k).a, .int ((rn (runsQ A t PL) k).a + 5 * t + 1), .int 0]] ++ ((runsQ A t PL).drop (k + 1)).map WD.w = ((runsQ A t PL).set k ⟨(rn (runsQ A t PL) k).a, (rn (runsQ A t PL) k).a + 5 * t + 1, 0⟩).map WD.w := by
      rw [List.set_eq_take_append_cons_drop, if_pos hk]
      simp only [List.map_append, List.map_cons, List.append_assoc, List.singleton_append]
      rfl
    rw [er]
    refine st_of rfl ?_
    walk_at "ss"
    refine c_lrefused (k := k) hT hTl (by rw [List.length_set]; exact rl1) hPL (fun r hr => ?_) hn8 htp8 (fun nm k => F1.mnn nm k) (by rw [List.length_set]; exact hk) ?_ ?_
    · rcases List.mem_or_eq_of_mem_set hr with hr | hr
      · exact rc PL r hr
      · rw [hr]
    · unfold badT
      have e1 : rn ((runsQ A t PL).set k ⟨(rn (runsQ A t PL) k).a, (rn (runsQ A t PL) k).a + 5 * t + 1, 0⟩) k = ⟨(rn (runsQ A t PL) k).a, (rn (runsQ A t PL) k).a + 5 * t + 1, 0⟩ := by
        show (((runsQ A t PL).set k _)[k]?).getD _ = _
        rw [List.getElem?_set, if_pos rfl, if_pos hk]; rfl
      have e2 : wy (tasksQ t PL) ((runsQ A t PL).set k ⟨(rn (runsQ A t PL) k).a, (rn (runsQ A t PL) k).a + 5 * t + 1, 0⟩) k = ⟨1, 5 * t, (pdA PL k).c⟩ := by
        unfold wy
        rw [e1]
        unfold tasksQ
        rw [List.getElem?_map, pdA_at hkP]; rfl
      rw [e1, e2, decide_eq_true_eq]
      dsimp only
      omega
    · rw [hD]
      exact .inl rfl
theorem law_mid (C : LawC T A t PL R1 R2 last) (H : HeapC g6 h tp td d1 d2 T t PL R1 R2) (T6 : Told g0 g6 d (T.map (·.1)) R1) (H0 : HeapC g0 h tp td d1 d2 T t PL R1 R2) (X6 : Ext g0 g6) {g9 : G} {D : Ends3} (hD : D.rt = rtS g9 (fun v _ => v = .bl true)) : svs (callF P gl 7) gl b33_19 D [some (.scr (ns.map W.int)), some (.ref td), some (.int (cm : Int)), some (.lv (PL.map WD.w)), some (.int t), some (.int A), some (.lv ((laterP PL).1.map WD.w)), some (.lv ((runsQ A t PL).map WD.w)), some (.ref h), some (.ref d1), some (.ref d2), o11, some (planW (runsQ A t PL) []), some (.ref d), o14, none, none, none, none] g6 := by
  have hT := C.F1.hT
  have hTl := C.F1.tl
  have hnd := hT.nd
  have ht5 := H.t
  have ht0 := H0.t
  have hTn : (T.map (·.1)).length ≤ 3 := by simpa using hTl
  obtain ⟨kvs, ekv, RB⟩ := T6.rowsB hnd C.h1
  refine st_of rfl ?_
  walk_at "ss"
  rw [keys_dic ht5]
  have ek : (toolK T).map (fun p => kW p.1) = (T.map (·.1)).map W.str := by simp [toolK, kW, Function.comp_def]
  rw [ek]
  refine for_map (fun pre post σ g' => ∃ g7 B o11 o14, g' = gup g7 td (.dic true (toolK T)) ∧ Ext g0 g7 ∧ RowsB g0 g7 kvs d pre post B ∧ B + 30 * post.length ≤ 200 ∧ σ = [some (.scr (ns.map W.int)), some (.ref td), some (.int (cm : Int)), some (.lv (PL.map WD.w)), some (.int t), some (.int A), some (.lv ((laterP PL).1.map WD.w)), some (.lv ((runsQ A t PL).map WD.w)), some (.ref h), some (.ref d1), some (.ref d2), o11, some (planW (runsQ A t PL) []), some (.ref d), o14, none, none, none, none]) ⟨g6, 8, o11, o14, rfl, X6, RB, by omega, rfl⟩ ?_ ?_
  · rintro σ g' ⟨g7, B6, o11, o14, rfl, X7, RB6, _, rfl⟩
    refine ⟨gup_same, un_two ht5 (X7 _ _ ht0) ?_⟩
    exact law_tail C (H0.ext X7) hD
  · rintro nm pre post σ g' hx2 ⟨g7, B6, o11, o14, rfl, X7, RB7, hB, rfl⟩ K hK
    refine ⟨gup_same, ?_⟩
    have hnm : nm ∈ T.map (·.1) := by rw [hx2]; simp
    have hnp : nm ∉ post := by
      have nd := hnd
      rw [hx2] at nd
      exact (List.nodup_cons.mp (List.nodup_append.mp nd).2.1).1
    obtain ⟨z, hz, ez⟩ := List.mem_map.mp (show nm ∈ kvs.map (·.1) by rw [ekv]; exact hnm)
    obtain ⟨nm', p⟩ := z
    dsimp only at ez
    subst ez
    obtain ⟨f0, fd, fe⟩ := RB7.ev _ hz
    obtain ⟨as, hal, hpl, has⟩ := fe List.mem_cons_self
    dsimp only at f0 fd hpl
    have hp0 : p ≠ td := fun z => by rw [z, ht0] at f0; cases f0
    have hdt : d ≠ td := fun z => by have := RB7.fd; rw [z, ht0] at this; cases this
    have hkg : dGet (kU kvs) (.inr nm') = some (.ref p) := by
      rw [kU_get, dGet_nd RB7.n hz]; rfl
    show svs _ _ _ _ [some (.scr (ns.map W.int)), some (.ref td), some (.int (cm : Int)), some (.lv (PL.map WD.w)), some (.int t), some (.int A), some (.lv ((laterP PL).1.map WD.w)), some (.lv ((runsQ A t PL).map WD.w)), some (.ref h), some (.ref d1), some (.ref d2), some (.str nm'), some (planW (runsQ A t PL) []), some (.ref d), o14, none, none, none, none] _
    refine st_of rfl ?_
    walk_at "ss"
    rw [ix_dic (lk := false) (kvs := kU kvs) (by rw [gup_ne hdt]; exact RB7.gd)]
    refine ⟨_, hkg, ?_⟩
    walk_at "ss"
    rw [lstAt_of (by rw [gup_ne hp0]; exact hpl)]
    refine for_map (f := W.ref) (fun pr po s g8 => ∃ g9 o14, g8 = gup g9 td (.dic true (toolK T)) ∧ Ext g0 g9 ∧ RowsB g0 g9 kvs d pre (nm' :: post) (B6 + pr.length) ∧ g9 p = some (.lst (as.map W.ref)) ∧ s = [some (.scr (ns.map W.int)), some (.ref td), some (.int (cm : Int)), some (.lv (PL.map WD.w)), some (.int t), some (.int A), some (.lv ((laterP PL).1.map WD.w)), some (.lv ((runsQ A t PL).map WD.w)), some (.ref h), some (.ref d1), some (.ref d2), some (.str nm'), some (planW (runsQ A t PL) []), some (.ref d), o14, none, none, none, none]) ⟨g7, o14, rfl, X7, RB7, hpl, rfl⟩ ?_ ?_
    · rintro s g8 ⟨g9, o14, rfl, X9, RB9, hp9, rfl⟩
      refine ⟨by rw [gup_ne hp0]; exact hp9, ?_⟩
      refine st_of rfl ?_
      walk_at "ss"
      rw [ix_dic (lk := false) (kvs := kU kvs) (by rw [gup_ne hdt]; exact RB9.gd)]
      refine ⟨_, hkg, ?_⟩
      walk_at "ss"
      have hp10 : gup g9 td (.dic true (toolK T)) p = some (.lst (as.map W.ref)) := by rw [gup_ne hp0]; exact hp9
      refine ⟨isLst_of hp10, ?_⟩
      try refine newF ?_
      refine app_of hp10 (by rw [List.length_map]; omega) ?_
      refine nl_of ?_
      refine hK _ _ ⟨gup g9 p (.lst (as.map W.ref ++ [.lv []])), B6 + as.length, _, _, ?_, ?_, ⟨?_, RB9.fd, fun e he => ?_, RB9.n, RB9.na⟩, ?_, rfl⟩
      · rw [gup_comm (Ne.symm hp0)]
      · exact Ext.wr X9 f0
      · rw [gup_ne (Ne.symm fd)]; exact RB9.gd
      · obtain ⟨k0, k1, k2⟩ := RB9.ev e he
        refine ⟨k0, k1, fun hpo => ?_⟩
        obtain ⟨as2, l1, l2, l3⟩ := k2 (List.mem_cons_of_mem _ hpo)
        have hne : e.2 ≠ p := fun z => by
          have h1 := dGet_nd RB9.n he
          have : e.1 ≠ nm' := fun zz => hnp (by rw [← zz]; exact hpo)
          exact this (congrArg Prod.fst (nodup_snd RB9.na he hz z))
        refine ⟨as2, l1, by rw [gup_ne hne]; exact l2, fun a ha => ?_⟩
        obtain ⟨m1, m2, m3, r, m4, m5⟩ := l3 a ha
        exact ⟨m1, m2, m3, r, by rw [gup_ne (m3 _ hz)]; exact m4, m5⟩
      · simp only [List.length_cons] at hB; omega
    · rintro a pr po s g8 hx8 ⟨g9, o14, rfl, X9, RB9, hp9, rfl⟩ K2 hK2
      refine ⟨by rw [gup_ne hp0]; exact hp9, ?_⟩
      have ham : a ∈ as := by rw [hx8]; simp
      have hprl : pr.length < as.length := by rw [hx8]; simp
      obtain ⟨f0', fd', fe'⟩ := RB9.ev _ hz
      obtain ⟨as', _, hpl', has'⟩ := fe' List.mem_cons_self
      have eas : as' = as := by
        rw [hp9] at hpl'
        have : as.map W.ref = as'.map W.ref := by simpa using hpl'
        exact ((List.map_inj_right (fun x y h => by cases h; rfl)).mp this).symm
      subst eas
      obtain ⟨m1, m2, m3, r, m4, m5⟩ := has' a ham
      have hat : a ≠ td := fun z => by rw [z, ht0] at m1; cases m1
      show svs _ _ _ _ [some (.scr (ns.map W.int)), some (.ref td), some (.int (cm : Int)), some (.lv (PL.map WD.w)), some (.int t), some (.int A), some (.lv ((laterP PL).1.map WD.w)), some (.lv ((runsQ A t PL).map WD.w)), some (.ref h), some (.ref d1), some (.ref d2), some (.str nm'), some (planW (runsQ A t PL) []), some (.ref d), some (.ref a), none, none, none, none] _
      refine st_of rfl ?_
      walk_at "ss"
      have ha10 : gup g9 td (.dic true (toolK T)) a = some (.lst (r.map W.int)) := by rw [gup_ne hat]; exact m4
      refine ⟨isLst_of ha10, ?_⟩
      simp only [List.length_cons] at hB
      refine app_m (f := W.int) (x := (77 : Int)) ha10 (by omega) rfl ?_
      refine nl_of ?_
      refine hK2 _ _ ⟨gup g9 a (.lst ((r ++ [77]).map W.int)), _, ?_, ?_, ⟨?_, RB9.fd, fun e he => ?_, RB9.n, RB9.na⟩, ?_, rfl⟩
      · rw [gup_comm (Ne.symm hat)]
      · exact Ext.wr X9 m1
      · rw [gup_ne (Ne.symm m2)]; exact RB9.gd
      · obtain ⟨k0, k1, k2⟩ := RB9.ev e he
        refine ⟨k0, k1, fun hpo => ?_⟩
        obtain ⟨as2, l1, l2, l3⟩ := k2 hpo
        refine ⟨as2, l1, by rw [gup_ne (Ne.symm (m3 e he))]; exact l2, fun b hb => ?_⟩
        obtain ⟨y1, y2, y3, r2, y4, y5⟩ := l3 b hb
        by_cases c : b = a
        · subst c
          rw [m4] at y4
          exact ⟨y1, y2, y3, r ++ [77], gup_same, by simp; omega⟩
        · exact ⟨y1, y2, y3, r2, by rw [gup_ne c]; exact y4, by simp; omega⟩
      · rw [gup_ne (Ne.symm (m3 _ hz))]; exact hp9
end
theorem gup5 {g : G} {td d1 d2 : Addr} {a a' b b' l : GO} (h1 : td ≠ d1) (h2 : td ≠ d2) (h3 : d1 ≠ d2) : gup (gup (gup (gup (gup g d1 a) d2 b) td l) d1 a') d2 b' = gup (gup (gup g d1 a') d2 b') td l := by
  rw [gup_comm (g := gup (gup g d1 a) d2 b) h1, gup_comm (g := gup g d1 a) (Ne.symm h3), gup_gup, gup_comm h2, gup_gup]
theorem law_ok (ns : List Int) (hn : ns.length ≤ 63) : callF P gl 8 33 [.scr (ns.map W.int)] (fun _ => none) (fun _ _ _ => False) (fun v _ => v = .bl true) := by
  refine u33 ?_
  generalize (fun _ => none : G) = g0
  refine st_of rfl ?_
  walk_at "ss"
  refine c_cell (k := 0) ?_
  refine c_drawn (m := 4) (by decide) fun xs hxs => ?_
  refine c_tools58 hxs fun T td hT hTl htd => ?_
  have ht0 : gup g0 td (.dic false (toolK T)) td = some (.dic false (toolK T)) := gup_same
  generalize gup g0 td (.dic false (toolK T)) = g1 at *
  refine st_of rfl ?_
  walk_at "ss"
  refine c_cell (k := 1) ?_
  walk_at "ss"
  obtain ⟨m9, hm9, em9⟩ := mod_nat (ns.getD 1 0) (m := 9) (by decide)
  rw [show (ns.getD 1 0).fmod 9 = (m9 : Int) from em9]
  have rest : ∀ (cm : Nat), cm ≤ 24 → ∀ D : Ends3, D.rt = rtS g0 (fun v _ => v = .bl true) → svs (callF P gl 7) gl b33_4 D [some (.scr (ns.map W.int)), some (.ref td), some (.int (cm : Int)), none, none, none, none, none, none, none, none, none, none, none, none, none, none, none, none] g1 := by
    intro cm hcm D hD
    refine st_of rfl ?_
    walk_at "ss"
    refine c_placed58 hT hTl hcm ht0 fun PL hPl B => ?_
    have hPL : PL.length ≤ 24 := by omega
    refine st_of rfl ?_
    walk_at "ss"
    refine c_cell (k := 2) ?_
    walk_at "ss"
    obtain ⟨t1, t2⟩ : 0 ≤ (ns.getD 2 0).fmod 100000000 ∧ (ns.getD 2 0).fmod 100000000 < 100000000 := ⟨Int.fmod_nonneg_of_pos _ (by decide), Int.fmod_lt_of_pos _ (by decide)⟩
    obtain ⟨t, ht⟩ : ∃ t, 1 + (ns.getD 2 0).fmod 100000000 = t := ⟨_, rfl⟩
    rw [ht]
    have htb : 1 ≤ t ∧ t ≤ 100000000 := by omega
    refine st_of rfl ?_
    walk_at "ss"
    refine c_cell (k := 3) ?_
    walk_at "ss"
    have ha : 0 ≤ (ns.getD 3 0).fmod 100000000000000000000000000000000000000000000000000000000000 := Int.fmod_nonneg_of_pos _ (by decide)
    generalize (ns.getD 3 0).fmod 100000000000000000000000000000000000000000000000000000000000 = A at *
    refine st_of rfl ?_
    walk_at "ss"
    refine c_behind hPL ?_
    obtain ⟨F1, F2⟩ := FitQ.same (A := A) (t := t) hT hTl htb ha hPL B
    have lcR : ∀ {ok : G → Prop} {g : G} {s : Sx} {Q : VK3} (QL : List Pd), True := fun _ => trivial
    refine st_of rfl ?_
    walk_at "ss"
    refine lc_val (f := WD.w) (u := WD.w) (c := fun _ => true) (e := fun p : Pd => (⟨A + t * p.a, A + t * p.b, 0⟩ : Run)) PL [] (fun p hp Q hQ => hQ) (fun p hp _ Q hQ => ?_) (by simp; omega) (newF ?_)
    · obtain ⟨h1, h2, h3⟩ := B.b p hp
      obtain ⟨p1, p2, p3⟩ := p
      rw [wdP]
      dsimp only at h1 h2
      walk_at "ss"
      refine mul_of (mul_sm (by omega) (by omega)) ?_
      walk_at "ss"
      refine mul_of (mul_sm (by omega) (by omega)) ?_
      walk_at "ss"
      exact hQ
    rw [List.nil_append, List.filter_eq_self.mpr (fun _ _ => rfl)]
    show svs _ _ _ _ [some (.scr (ns.map W.int)), some (.ref td), some (.int (cm : Int)), some (.lv (PL.map WD.w)), some (.int t), some (.int A), some (.lv ((laterP PL).1.map WD.w)), some (.lv ((runsQ A t PL).map WD.w)), none, none, none, none, none, none, none, none, none, none, none] _
    refine st_of rfl ?_
    walk_at "ss"
    refine lc_val (f := WD.w) (u := WD.w) (c := fun _ => true) (e := fun p : Pd => ([⟨1, 5 * t, p.c⟩] : List Way)) PL [] (fun p hp Q hQ => hQ) (fun p hp _ Q hQ => ?_) (by simp; omega) (newF ?_)
    · obtain ⟨p1, p2, p3⟩ := p
      rw [wdP]
      walk_at "ss"
      exact hQ
    rw [List.nil_append, List.filter_eq_self.mpr (fun _ _ => rfl)]
    show newL _ _ _
    refine newF ?_
    intro h hh
    have n1 : td ≠ h := ne_free ht0 hh
    refine c_netN4 (tasks := tasksQ t PL) (A := []) (T := T) (td := td) (by omega) (fun p hp => ?_) (by simp [tasksQ]; omega) F1.way (by simp) (by simp) gup_same (by rw [gup_ne n1]; exact ht0) fun tp htp => ?_
    · have e := dGet_nd hT.nd hp
      have := num_b hT (List.mem_map.mpr ⟨p, hp, rfl⟩)
      unfold numT at this
      rw [e] at this
      exact this
    refine ⟨rfl, ?_⟩
    have n2 : h ≠ tp := ne_free gup_same htp
    have n3 : td ≠ tp := ne_free (by rw [gup_ne n1]; exact ht0) htp
    have hn2 : gup (gup (gup g1 h (.ins 0 [])) tp (.dic false (toolK T))) h (.ins cN (netF tp (tasksQ t PL) [] [] 0)) h = some (.ins cN (netF tp (tasksQ t PL) [] [] 0)) := gup_same
    have htp2 : gup (gup (gup g1 h (.ins 0 [])) tp (.dic false (toolK T))) h (.ins cN (netF tp (tasksQ t PL) [] [] 0)) tp = some (.dic false (toolK T)) := by rw [gup_ne (Ne.symm n2), gup_same]
    have htd2 : gup (gup (gup g1 h (.ins 0 [])) tp (.dic false (toolK T))) h (.ins cN (netF tp (tasksQ t PL) [] [] 0)) td = some (.dic false (toolK T)) := by rw [gup_ne n1, gup_ne n3, gup_ne n1]; exact ht0
    generalize gup (gup (gup g1 h (.ins 0 [])) tp (.dic false (toolK T))) h (.ins cN (netF tp (tasksQ t PL) [] [] 0)) = g2 at *
    have hR : ∀ (QL : List Pd), QL.length ≤ 24 → ∀ nm, (lawD QL nm (numT T nm).toNat).length ≤ 24 ∧ ∀ r ∈ lawD QL nm (numT T nm).toNat, r.length ≤ 8 := fun QL hQ nm => rowsD_b hQ (numT_le hT nm)
    have hR1 := hR PL hPL
    have hR2 := hR (laterP PL).1 (by rw [later_len]; exact hPL)
    have eR1 : rowsD (tasksQ t PL) (runsQ A t PL) T = fun nm => lawD PL nm (numT T nm).toNat := funext F1.rows
    have eR2 : rowsD (tasksQ t PL) (runsQ A t (laterP PL).1) T = fun nm => lawD (laterP PL).1 nm (numT T nm).toNat := funext F2.rows
    have hU1 : ∀ p ∈ PL, (p.c.map (·.a)).Nodup ∧ p.c.length ≤ 100 ∧ ∀ u ∈ p.c, 1 ≤ u.b := fun p hp => by
      have U := (F1.b p hp).2.2
      exact ⟨U.nd, by have := U.l; omega, fun u hu => (use_name (U.u u hu).1).2.2.1⟩
    have hU2 : ∀ p ∈ (laterP PL).1, (p.c.map (·.a)).Nodup ∧ p.c.length ≤ 100 ∧ ∀ u ∈ p.c, 1 ≤ u.b := fun p hp => by
      have U := (F2.b p hp).2.2
      exact ⟨U.nd, by have := U.l; omega, fun u hu => (use_name (U.u u hu).1).2.2.1⟩
    generalize hr1 : (fun nm => lawD PL nm (numT T nm).toNat) = R1 at *
    generalize hr2 : (fun nm => lawD (laterP PL).1 nm (numT T nm).toNat) = R2 at *
    have hr1' : ∀ nm, lawD PL nm (numT T nm).toNat = R1 nm := fun nm => congrFun hr1 nm
    have hr2' : ∀ nm, lawD (laterP PL).1 nm (numT T nm).toNat = R2 nm := fun nm => congrFun hr2 nm
    simp only [hr1'] at hR1
    simp only [hr2'] at hR2
    refine st_of rfl ?_
    walk_at "ss"
    intro d1 hd1
    refine st_of rfl ?_
    walk_at "ss"
    intro d2 hd2
    have n12 : d1 ≠ d2 := ne_free gup_same hd2
    have hd2' : g2 d2 = none := by rw [gup_ne (Ne.symm n12)] at hd2; exact hd2
    have ntd1 : td ≠ d1 := ne_free htd2 hd1
    have ntd2 : td ≠ d2 := ne_free htd2 hd2'
    refine st_of rfl ?_
    walk_at "ss"
    have ht3 : gup (gup g2 d1 (.dic false [])) d2 (.dic false []) td = some (.dic false (toolK T)) := by rw [gup_ne ntd2, gup_ne ntd1]; exact htd2
    rw [keys_dic ht3]
    have ek : (toolK T).map (fun p => kW p.1) = (T.map (·.1)).map W.str := by simp [toolK, kW, Function.comp_def]
    rw [ek]
    have hnd := hT.nd
    generalize hbase : gup (gup g2 d1 (.dic false [])) d2 (.dic false []) = g3 at *
    refine for_map (fun pre post σ g' => ∃ o11, g' = gup (gup (gup g2 d1 (.dic false (dueK pre R1))) d2 (.dic false (dueK pre R2))) td (.dic true (toolK T)) ∧ σ = [some (.scr (ns.map W.int)), some (.ref td), some (.int (cm : Int)), some (.lv (PL.map WD.w)), some (.int t), some (.int A), some (.lv ((laterP PL).1.map WD.w)), some (.lv ((runsQ A t PL).map WD.w)), some (.ref h), some (.ref d1), some (.ref d2), o11, none, none, none, none, none, none, none]) ⟨none, by rw [← hbase]; rfl, rfl⟩ ?_ ?_
    · rintro σ g' ⟨o11, rfl, rfl⟩
      have ht4 : gup (gup g2 d1 (.dic false (dueK (T.map (·.1)) R1))) d2 (.dic false (dueK (T.map (·.1)) R2)) td = some (.dic false (toolK T)) := by rw [gup_ne ntd2, gup_ne ntd1]; exact htd2
      refine ⟨gup_same, un_two ht3 ht4 ?_⟩
      have X4 : Ext g2 (gup (gup g2 d1 (.dic false (dueK (T.map (·.1)) R1))) d2 (.dic false (dueK (T.map (·.1)) R2))) := fun a o e => by
        rw [gup_ne (ne_free e hd2'), gup_ne (ne_free e hd1)]; exact e
      have D1 : gup (gup g2 d1 (.dic false (dueK (T.map (·.1)) R1))) d2 (.dic false (dueK (T.map (·.1)) R2)) d1 = some (.dic false (dueK (T.map (·.1)) R1)) := by rw [gup_ne n12, gup_same]
      have D2 : gup (gup g2 d1 (.dic false (dueK (T.map (·.1)) R1))) d2 (.dic false (dueK (T.map (·.1)) R2)) d2 = some (.dic false (dueK (T.map (·.1)) R2)) := gup_same
      have hn4 := X4 _ _ hn2
      have htp4 := X4 _ _ htp2
      generalize gup (gup g2 d1 (.dic false (dueK (T.map (·.1)) R1))) d2 (.dic false (dueK (T.map (·.1)) R2)) = g4 at *
      have hTn : (T.map (·.1)).length ≤ 12 := by simp; omega
      have rl1 : (runsQ A t PL).length = PL.length := runsQ_len
      have rl2 : (runsQ A t (laterP PL).1).length = PL.length := by rw [runsQ_len, later_len]
      have rc : ∀ (QL : List Pd), ∀ r ∈ runsQ A t QL, r.c = 0 := fun QL r hr => by obtain ⟨p, _, rfl⟩ := List.mem_map.mp hr; rfl
      obtain ⟨S1, hS1, hSm1⟩ := ex_rise ((runsQ A t PL).map (·.a))
      obtain ⟨S2, hS2, hSm2⟩ := ex_rise ((runsQ A t (laterP PL).1).map (·.a))
      refine st_of rfl ?_
      walk_at "ss"
      refine st_of rfl ?_
      walk_at "ss"
      refine c_roster (tasks := tasksQ t PL) (A := []) (prs := []) (m := 0) (T := T) (runs := runsQ A t PL) (times := []) (tp := tp) hT (netA_of rl1 hPL (rc PL) hn4 htp4 hTl hS1 hSm1) (fun nm k => F1.mnn nm k) (fun z => absurd (F1.none hSm1) z) fun _ d g5 X5 T5 => ?_
      rw [eR1] at T5
      have X5' := X5
      refine st_of rfl ?_
      walk_at "ss"
      refine c_told hnd hTn hR1 T5 (X5 _ _ D1) D1 ?_
      walk_at "ss"
      refine eqS_w (α := List Run × List Int) (x := (runsQ A t PL, [])) (y := (runsQ A t PL, [])) (by decide) ?_
      rw [decide_eq_true rfl]
      walk_at "ss"
      refine nl_of (CF := callF P gl 7) (gl := gl) ?_
      exact law_mid ⟨F1, F2, B, eR1, eR2, hR1, hR2⟩ (HeapC.ext ⟨hn4, htp4, ht4, D1, D2⟩ X5) T5 ⟨hn4, htp4, ht4, D1, D2⟩ X5 hD
    · rintro nm pre post σ g' hx2 ⟨o11, rfl, rfl⟩ K hK
      refine ⟨gup_same, ?_⟩
      have hnm : nm ∈ T.map (·.1) := by rw [hx2]; simp
      have hnp : nm ∉ pre := by
        have nd := hnd
        rw [hx2] at nd
        exact fun z => (List.nodup_append.mp nd).2.2 nm z nm List.mem_cons_self rfl
      obtain ⟨b1, b2⟩ := num_b hT hnm
      have hpl2 : pre.length ≤ 3 := by have := congrArg List.length hx2; simp at this; omega
      have hN : ((numT T nm).toNat : Int) = numT T nm := by omega
      show svs _ _ _ _ [some (.scr (ns.map W.int)), some (.ref td), some (.int (cm : Int)), some (.lv (PL.map WD.w)), some (.int t), some (.int A), some (.lv ((laterP PL).1.map WD.w)), some (.lv ((runsQ A t PL).map WD.w)), some (.ref h), some (.ref d1), some (.ref d2), some (.str nm), none, none, none, none, none, none, none] _
      refine st_of rfl ?_
      walk_at "ss"
      rw [ix_dic gup_same]
      refine ⟨_, num_at hnm, ?_⟩
      walk_at "ss"
      rw [← hN]
      refine c_dealt hPL (by omega) hU1 ?_
      rw [hr1']
      have e1 : gup (gup (gup g2 d1 (.dic false (dueK pre R1))) d2 (.dic false (dueK pre R2))) td (.dic true (toolK T)) d1 = some (.dic false (dueK pre R1)) := by rw [gup_ne (Ne.symm ntd1), gup_ne n12, gup_same]
      simp only [putS, e1, toKey]
      refine ⟨small_line (by simp [dueK]; omega), ?_⟩
      rw [dueK_put hnp]
      refine st_of rfl ?_
      walk_at "ss"
      rw [ix_dic (lk := true) (kvs := toolK T) (by rw [gup_ne ntd1, gup_same])]
      refine ⟨_, num_at hnm, ?_⟩
      walk_at "ss"
      rw [← hN]
      refine c_dealt (by rw [later_len]; exact hPL) (by omega) hU2 ?_
      rw [hr2']
      have e2 : gup (gup (gup (gup g2 d1 (.dic false (dueK pre R1))) d2 (.dic false (dueK pre R2))) td (.dic true (toolK T))) d1 (.dic false (dueK (pre ++ [nm]) R1)) d2 = some (.dic false (dueK pre R2)) := by rw [gup_ne (Ne.symm n12), gup_ne (Ne.symm ntd2), gup_same]
      simp only [putS, e2, toKey]
      refine ⟨small_line (by simp [dueK]; omega), ?_⟩
      rw [dueK_put hnp]
      refine nl_of ?_
      refine hK _ _ ⟨_, ?_, rfl⟩
      exact gup5 ntd1 ntd2 n12
  refine st_K rfl fun K hK => ?_
  walk_at "ss"
  refine c_cell (k := 1) ?_
  walk_at "ss"
  by_cases c : ((ns.getD 1 0).fdiv 9).fmod 8 = 1
  · rw [if_pos c]
    refine st_of rfl ?_
    walk_at "ss"
    refine nl_of ?_
    exact hK _ _ (rest 24 (by decide) _ rfl)
  · rw [if_neg c]
    refine nl_of (CF := callF P gl 7) (gl := gl) ?_
    exact hK _ _ (rest m9 (by omega) _ rfl)
theorem facts {Pr : Program} {w : World} {K : PySem.W.Frag} {h : Heap} {mg : Str → Option Value} {f : Addr} (X : K.In h) (G : h.Ns mainGlobals mg) (hfa : mg ("law" : Str) = some (.ref f)) (c0 : He.SaysX fa fn [] [] exB w h K) :
    ∃ fd : FuncData, (∀ (s : Shared) (v : Value), BindsTo s fd ⟨[v], []⟩ [("_law_script", v)]) ∧ ∀ base : Heap, K.In base → base.Ns mainGlobals mg → FnOk Pr w K mg base (L2.CX Pr w) (2 * 8 + 2) f fd ["_law_script"] (spLaw3 K) := by
  obtain ⟨c, cb0⟩ := says_fact c0
  obtain ⟨cbh, cbx⟩ := bool_and (show ((csB xfl xs cd K && obB ocs fl fp K && icB ocs ics K) && true) = true from cb0)
  obtain ⟨cb1, cic⟩ := bool_and cbh
  obtain ⟨cb, cob⟩ := bool_and cb1
  obtain ⟨fd0, F0⟩ := c.def_ 0 (d := D0) rfl
  obtain ⟨fd1, F1⟩ := c.def_ 1 (d := D1) rfl
  obtain ⟨fd2, F2⟩ := c.def_ 2 (d := D2) rfl
  obtain ⟨fd3, F3⟩ := c.def_ 3 (d := D3) rfl
  obtain ⟨fd4, F4⟩ := c.def_ 4 (d := D4) rfl
  obtain ⟨fd5, F5⟩ := c.def_ 5 (d := D5) rfl
  obtain ⟨fd6, F6⟩ := c.def_ 6 (d := D6) rfl
  obtain ⟨fd7, F7⟩ := c.def_ 7 (d := D7) rfl
  obtain ⟨fd8, F8⟩ := c.def_ 8 (d := D8) rfl
  obtain ⟨fd9, F9⟩ := c.def_ 9 (d := D9) rfl
  obtain ⟨fd10, F10⟩ := c.def_ 10 (d := D10) rfl
  obtain ⟨fd11, F11⟩ := c.def_ 11 (d := D11) rfl
  obtain ⟨fd12, F12⟩ := c.def_ 12 (d := D12) rfl
  obtain ⟨fd13, F13⟩ := c.def_ 13 (d := D13) rfl
  obtain ⟨fd14, F14⟩ := c.def_ 14 (d := D14) rfl
  obtain ⟨fd15, F15⟩ := c.def_ 15 (d := D15) rfl
  obtain ⟨fd16, F16⟩ := c.def_ 16 (d := D16) rfl
  obtain ⟨fd17, F17⟩ := c.def_ 17 (d := D17) rfl
  obtain ⟨fd18, F18⟩ := c.def_ 18 (d := D18) rfl
  obtain ⟨fd19, F19⟩ := c.def_ 19 (d := D19) rfl
  obtain ⟨fd20, F20⟩ := c.def_ 20 (d := D20) rfl
  obtain ⟨fd21, F21⟩ := c.def_ 21 (d := D21) rfl
  obtain ⟨fd22, F22⟩ := c.def_ 22 (d := D22) rfl
  obtain ⟨fd23, F23⟩ := c.def_ 23 (d := D23) rfl
  obtain ⟨fd24, F24⟩ := c.def_ 24 (d := D24) rfl
  obtain ⟨fd25, F25⟩ := c.def_ 25 (d := D25) rfl
  obtain ⟨fd26, F26⟩ := c.def_ 26 (d := D26) rfl
  obtain ⟨fd27, F27⟩ := c.def_ 27 (d := D27) rfl
  obtain ⟨fd28, F28⟩ := c.def_ 28 (d := D28) rfl
  obtain ⟨fd29, F29⟩ := c.def_ 29 (d := D29) rfl
  obtain ⟨fd30, F30⟩ := c.def_ 30 (d := D30) rfl
  obtain ⟨fd31, F31⟩ := c.def_ 31 (d := D31) rfl
  obtain ⟨fd32, F32⟩ := c.def_ 32 (d := D32) rfl
  obtain ⟨fd33, F33⟩ := c.def_ 33 (d := D33) rfl
  have e := hfa.symm.trans (He.glo_ok X G (c.fact 32 (f := .glo "law") rfl))
  cases e
  have E0 : DefOk K mg P gls xs cs ocs fl ics xf xfl d0 (He.fAd K ("is_plan", none)) fd0 := defOk_N (st := (top 7)) (q := "is_plan") F0 sc0 ch0 (fun _ => He.glo_ok X G (c.fact 0 (f := .glo "is_plan") rfl)) rfl (fun _ _ _ _ _ _ us hl => match us, hl with | [_, _], _ => rfl)
  have E1 : DefOk K mg P gls xs cs ocs fl ics xf xfl d1 (He.fAd K ("time_of", none)) fd1 := defOk_N (st := (top 8)) (q := "time_of") F1 sc1 ch1 (fun _ => He.glo_ok X G (c.fact 1 (f := .glo "time_of") rfl)) rfl (fun _ _ _ _ _ _ us hl => match us, hl with | [_, _], _ => rfl)
  have E2 : DefOk K mg P gls xs cs ocs fl ics xf xfl d2 (He.fAd K ("runs_meet", none)) fd2 := defOk_N (st := (top 9)) (q := "runs_meet") F2 sc2 ch2 (fun _ => He.glo_ok X G (c.fact 2 (f := .glo "runs_meet") rfl)) rfl (fun _ _ _ _ _ _ us hl => match us, hl with | [_, _], _ => rfl)
  have E3 : DefOk K mg P gls xs cs ocs fl ics xf xfl d3 (He.fAd K ("way_run", none)) fd3 := defOk_N (st := (top 10)) (q := "way_run") F3 sc3 ch3 (fun _ => He.glo_ok X G (c.fact 3 (f := .glo "way_run") rfl)) rfl (fun _ _ _ _ _ _ us hl => match us, hl with | [_, _, _], _ => rfl)
  have E4 : DefOk K mg P gls xs cs ocs fl ics xf xfl d4 (He.fAd K ("many_of", none)) fd4 := defOk_N (st := (top 11)) (q := "many_of") F4 sc4 ch4 (fun _ => He.glo_ok X G (c.fact 4 (f := .glo "many_of") rfl)) rfl (fun _ _ _ _ _ _ us hl => match us, hl with | [_, _], _ => rfl)
  have E5 : DefOk K mg P gls xs cs ocs fl ics xf xfl d5 (He.fAd K ("heat_of", none)) fd5 := defOk_N (st := (top 12)) (q := "heat_of") F5 sc5 ch5 (fun _ => He.glo_ok X G (c.fact 5 (f := .glo "heat_of") rfl)) rfl (fun _ _ _ _ _ _ us hl => match us, hl with | [_, _], _ => rfl)
  have E6 : DefOk K mg P gls xs cs ocs fl ics xf xfl d6 (He.fAd K ("in_use", none)) fd6 := defOk_N (st := (top 13)) (q := "in_use") F6 sc6 ch6 (fun _ => He.glo_ok X G (c.fact 6 (f := .glo "in_use") rfl)) rfl (fun _ _ _ _ _ _ us hl => match us, hl with | [_, _, _, _], _ => rfl)
  have E7 : DefOk K mg P gls xs cs ocs fl ics xf xfl d7 (He.fAd K ("times_broken", none)) fd7 := defOk_N (st := (top 14)) (q := "times_broken") F7 sc7 ch7 (fun _ => He.glo_ok X G (c.fact 7 (f := .glo "times_broken") rfl)) rfl (fun _ _ _ _ _ _ us hl => match us, hl with | [_, _], _ => rfl)
  have E8 : DefOk K mg P gls xs cs ocs fl ics xf xfl d8 (He.fAd K ("links_broken", none)) fd8 := defOk_N (st := (top 15)) (q := "links_broken") F8 sc8 ch8 (fun _ => He.glo_ok X G (c.fact 8 (f := .glo "links_broken") rfl)) rfl (fun _ _ _ _ _ _ us hl => match us, hl with | [_, _], _ => rfl)
  have E9 : DefOk K mg P gls xs cs ocs fl ics xf xfl d9 (He.fAd K ("tools_broken", none)) fd9 := defOk_N (st := (top 16)) (q := "tools_broken") F9 sc9 ch9 (fun _ => He.glo_ok X G (c.fact 9 (f := .glo "tools_broken") rfl)) rfl (fun _ _ _ _ _ _ us hl => match us, hl with | [_, _], _ => rfl)
  have E10 : DefOk K mg P gls xs cs ocs fl ics xf xfl d10 (He.fAd K ("at_two_heats", none)) fd10 := defOk_N (st := (top 17)) (q := "at_two_heats") F10 sc10 ch10 (fun _ => He.glo_ok X G (c.fact 10 (f := .glo "at_two_heats") rfl)) rfl (fun _ _ _ _ _ _ us hl => match us, hl with | [_, _, _, _, _], _ => rfl)
  have E11 : DefOk K mg P gls xs cs ocs fl ics xf xfl d11 (He.fAd K ("heats_broken", none)) fd11 := defOk_N (st := (top 18)) (q := "heats_broken") F11 sc11 ch11 (fun _ => He.glo_ok X G (c.fact 11 (f := .glo "heats_broken") rfl)) rfl (fun _ _ _ _ _ _ us hl => match us, hl with | [_, _], _ => rfl)
  have E12 : DefOk K mg P gls xs cs ocs fl ics xf xfl d12 (He.fAd K ("breaches", none)) fd12 := defOk_N (st := (top 19)) (q := "breaches") F12 sc12 ch12 (fun _ => He.glo_ok X G (c.fact 12 (f := .glo "breaches") rfl)) rfl (fun _ _ _ _ _ _ us hl => match us, hl with | [_, _], _ => rfl)
  have E13 : DefOk K mg P gls xs cs ocs fl ics xf xfl d13 (He.fAd K ("plan_fits", none)) fd13 := defOk_N (st := (top 20)) (q := "plan_fits") F13 sc13 ch13 (fun _ => He.glo_ok X G (c.fact 13 (f := .glo "plan_fits") rfl)) rfl (fun _ _ _ _ _ _ us hl => match us, hl with | [_, _], _ => rfl)
  have E14 : DefOk K mg P gls xs cs ocs fl ics xf xfl d14 (He.fAd K ("pieces_of", none)) fd14 := defOk_N (st := (top 22)) (q := "pieces_of") F14 sc14 ch14 (fun _ => He.glo_ok X G (c.fact 14 (f := .glo "pieces_of") rfl)) rfl (fun _ _ _ _ _ _ us hl => match us, hl with | [_, _, _], _ => rfl)
  have E15 : DefOk K mg P gls xs cs ocs fl ics xf xfl d15 (He.fAd K ("roster", none)) fd15 := defOk_N (st := (top 23)) (q := "roster") F15 sc15 ch15 (fun _ => He.glo_ok X G (c.fact 15 (f := .glo "roster") rfl)) rfl (fun _ _ _ _ _ _ us hl => match us, hl with | [_, _], _ => rfl)
  have E16 : DefOk K mg P gls xs cs ocs fl ics xf xfl d16 (He.fAd K ("kept_tools", none)) fd16 := defOk_N (st := (top 32)) (q := "kept_tools") F16 sc16 ch16 (fun _ => He.glo_ok X G (c.fact 16 (f := .glo "kept_tools") rfl)) rfl (fun _ _ _ _ _ _ us hl => match us, hl with | [_], _ => rfl)
  have E17 : DefOk K mg P gls xs cs ocs fl ics xf xfl d17 (He.fAd K ("kept_way", none)) fd17 := defOk_N (st := (top 33)) (q := "kept_way") F17 sc17 ch17 (fun _ => He.glo_ok X G (c.fact 17 (f := .glo "kept_way") rfl)) rfl (fun _ _ _ _ _ _ us hl => match us, hl with | [_, _], _ => rfl)
  have E18 : DefOk K mg P gls xs cs ocs fl ics xf xfl d18 (He.fAd K ("kept_tasks", none)) fd18 := defOk_N (st := (top 34)) (q := "kept_tasks") F18 sc18 ch18 (fun _ => He.glo_ok X G (c.fact 18 (f := .glo "kept_tasks") rfl)) rfl (fun _ _ _ _ _ _ us hl => match us, hl with | [_, _], _ => rfl)
  have E19 : DefOk K mg P gls xs cs ocs fl ics xf xfl d19 (He.fAd K ("kept_arcs", none)) fd19 := defOk_N (st := (top 35)) (q := "kept_arcs") F19 sc19 ch19 (fun _ => He.glo_ok X G (c.fact 19 (f := .glo "kept_arcs") rfl)) rfl (fun _ _ _ _ _ _ us hl => match us, hl with | [_, _], _ => rfl)
  have E20 : DefOk K mg P gls xs cs ocs fl ics xf xfl d20 (He.fAd K ("kept_pairs", none)) fd20 := defOk_N (st := (top 36)) (q := "kept_pairs") F20 sc20 ch20 (fun _ => He.glo_ok X G (c.fact 20 (f := .glo "kept_pairs") rfl)) rfl (fun _ _ _ _ _ _ us hl => match us, hl with | [_, _], _ => rfl)
  have E21 : DefOk K mg P gls xs cs ocs fl ics xf xfl d21 (He.fAd K ("Net", some "__init__")) fd21 := defOk_D (st := (topm 37 0)) (q := "Net.__init__") (dvs := He.DefD.dvs K D21) F21 sc21 ch21 (fun h => nomatch h) (List.cons_ne_nil _ _) rfl (rvs_drop fun _ => (RVs.cons rv_non (RVs.cons rv_int RVs.nil))) (fun m h1 h2 => match m, h1, h2 with | 0, _, h2 => absurd (show 6 ≤ 0 + 2 from h2) (by decide) | 1, _, h2 => absurd (show 6 ≤ 1 + 2 from h2) (by decide) | 2, _, h2 => absurd (show 6 ≤ 2 + 2 from h2) (by decide) | 3, _, h2 => absurd (show 6 ≤ 3 + 2 from h2) (by decide) | 4, _, _ => fun _ _ _ _ _ _ _ us its hl hi => (match us, its, hl, hi with | [_, _, _, _], [_, _], _, _ => ⟨_, rfl, rfl⟩) | 5, _, _ => fun _ _ _ _ _ _ _ us its hl hi => (match us, its, hl, hi with | [_, _, _, _, _], [_, _], _, _ => ⟨_, rfl, rfl⟩) | 6, _, _ => fun _ _ _ _ _ _ _ us its hl hi => (match us, its, hl, hi with | [_, _, _, _, _, _], [_, _], _, _ => ⟨_, rfl, rfl⟩) | m + 7, h1, _ => absurd (show m + 7 ≤ 6 from h1) (by omega))
  have E22 : DefOk K mg P gls xs cs ocs fl ics xf xfl d22 (He.fAd K ("_law_cell_at", none)) fd22 := defOk_N (st := (top 39)) (q := "_law_cell_at") F22 sc22 ch22 (fun _ => He.glo_ok X G (c.fact 21 (f := .glo "_law_cell_at") rfl)) rfl (fun _ _ _ _ _ _ us hl => match us, hl with | [_, _], _ => rfl)
  have E23 : DefOk K mg P gls xs cs ocs fl ics xf xfl d23 (He.fAd K ("_law_whole", none)) fd23 := defOk_N (st := (top 40)) (q := "_law_whole") F23 sc23 ch23 (fun _ => He.glo_ok X G (c.fact 22 (f := .glo "_law_whole") rfl)) rfl (fun _ _ _ _ _ _ us hl => match us, hl with | [_], _ => rfl)
  have E24 : DefOk K mg P gls xs cs ocs fl ics xf xfl d24 (He.fAd K ("_law_drawn", none)) fd24 := defOk_N (st := (top 41)) (q := "_law_drawn") F24 sc24 ch24 (fun _ => He.glo_ok X G (c.fact 23 (f := .glo "_law_drawn") rfl)) rfl (fun _ _ _ _ _ _ us hl => match us, hl with | [_, _], _ => rfl)
  have E25 : DefOk K mg P gls xs cs ocs fl ics xf xfl d25 (He.fAd K ("_law_tools", none)) fd25 := defOk_N (st := (top 42)) (q := "_law_tools") F25 sc25 ch25 (fun _ => He.glo_ok X G (c.fact 24 (f := .glo "_law_tools") rfl)) rfl (fun _ _ _ _ _ _ us hl => match us, hl with | [_], _ => rfl)
  have E26 : DefOk K mg P gls xs cs ocs fl ics xf xfl d26 (He.fAd K ("_law_uses", none)) fd26 := defOk_N (st := (top 43)) (q := "_law_uses") F26 sc26 ch26 (fun _ => He.glo_ok X G (c.fact 25 (f := .glo "_law_uses") rfl)) rfl (fun _ _ _ _ _ _ us hl => match us, hl with | [_, _], _ => rfl)
  have E27 : DefOk K mg P gls xs cs ocs fl ics xf xfl d27 (He.fAd K ("_law_free", none)) fd27 := defOk_N (st := (top 44)) (q := "_law_free") F27 sc27 ch27 (fun _ => He.glo_ok X G (c.fact 26 (f := .glo "_law_free") rfl)) rfl (fun _ _ _ _ _ _ us hl => match us, hl with | [_, _, _, _, _], _ => rfl)
  have E28 : DefOk K mg P gls xs cs ocs fl ics xf xfl d28 (He.fAd K ("_law_placed", none)) fd28 := defOk_N (st := (top 45)) (q := "_law_placed") F28 sc28 ch28 (fun _ => He.glo_ok X G (c.fact 27 (f := .glo "_law_placed") rfl)) rfl (fun _ _ _ _ _ _ us hl => match us, hl with | [_, _, _], _ => rfl)
  have E29 : DefOk K mg P gls xs cs ocs fl ics xf xfl d29 (He.fAd K ("_law_behind_one_another", none)) fd29 := defOk_N (st := (top 46)) (q := "_law_behind_one_another") F29 sc29 ch29 (fun _ => He.glo_ok X G (c.fact 28 (f := .glo "_law_behind_one_another") rfl)) rfl (fun _ _ _ _ _ _ us hl => match us, hl with | [_], _ => rfl)
  have E30 : DefOk K mg P gls xs cs ocs fl ics xf xfl d30 (He.fAd K ("_law_dealt", none)) fd30 := defOk_N (st := (top 47)) (q := "_law_dealt") F30 sc30 ch30 (fun _ => He.glo_ok X G (c.fact 29 (f := .glo "_law_dealt") rfl)) rfl (fun _ _ _ _ _ _ us hl => match us, hl with | [_, _, _], _ => rfl)
  have E31 : DefOk K mg P gls xs cs ocs fl ics xf xfl d31 (He.fAd K ("_law_told", none)) fd31 := defOk_N (st := (top 48)) (q := "_law_told") F31 sc31 ch31 (fun _ => He.glo_ok X G (c.fact 30 (f := .glo "_law_told") rfl)) rfl (fun _ _ _ _ _ _ us hl => match us, hl with | [_, _], _ => rfl)
  have E32 : DefOk K mg P gls xs cs ocs fl ics xf xfl d32 (He.fAd K ("_law_refused", none)) fd32 := defOk_N (st := (top 49)) (q := "_law_refused") F32 sc32 ch32 (fun _ => He.glo_ok X G (c.fact 31 (f := .glo "_law_refused") rfl)) rfl (fun _ _ _ _ _ _ us hl => match us, hl with | [_, _], _ => rfl)
  have E33 : DefOk K mg P gls xs cs ocs fl ics xf xfl d33 (He.fAd K ("law", none)) fd33 := defOk_N (st := (top 50)) (q := "law") F33 sc33 ch33 (fun _ => He.glo_ok X G (c.fact 32 (f := .glo "law") rfl)) rfl (fun _ _ _ _ _ _ us hl => match us, hl with | [_], _ => rfl)
  let fA : Nat → Addr := fun i => He.fAd K (fp.getD i ("", none))
  let fD : Nat → FuncData := fun i => [fd0, fd1, fd2, fd3, fd4, fd5, fd6, fd7, fd8, fd9, fd10, fd11, fd12, fd13, fd14, fd15, fd16, fd17, fd18, fd19, fd20, fd21, fd22, fd23, fd24, fd25, fd26, fd27, fd28, fd29, fd30, fd31, fd32, fd33].getD i fd0
  have T : TopOk Pr w K mg ⟨K, clsE K xs, oclE K ocs, ocs.length, fl, xfl⟩ P gl gls xs cs ocs fl ics xf xfl fA fD := {
    hK := rfl
    defs := fun i d e => by
      match i, e with
      | 0, e => cases e; exact E0
      | 1, e => cases e; exact E1
      | 2, e => cases e; exact E2
      | 3, e => cases e; exact E3
      | 4, e => cases e; exact E4
      | 5, e => cases e; exact E5
      | 6, e => cases e; exact E6
      | 7, e => cases e; exact E7
      | 8, e => cases e; exact E8
      | 9, e => cases e; exact E9
      | 10, e => cases e; exact E10
      | 11, e => cases e; exact E11
      | 12, e => cases e; exact E12
      | 13, e => cases e; exact E13
      | 14, e => cases e; exact E14
      | 15, e => cases e; exact E15
      | 16, e => cases e; exact E16
      | 17, e => cases e; exact E17
      | 18, e => cases e; exact E18
      | 19, e => cases e; exact E19
      | 20, e => cases e; exact E20
      | 21, e => cases e; exact E21
      | 22, e => cases e; exact E22
      | 23, e => cases e; exact E23
      | 24, e => cases e; exact E24
      | 25, e => cases e; exact E25
      | 26, e => cases e; exact E26
      | 27, e => cases e; exact E27
      | 28, e => cases e; exact E28
      | 29, e => cases e; exact E29
      | 30, e => cases e; exact E30
      | 31, e => cases e; exact E31
      | 32, e => cases e; exact E32
      | 33, e => cases e; exact E33
      | i + 34, e => cases e
    blt := (List.forall_mem_cons.mpr ⟨He.free_ok X G (c.fact 33 (f := .free "len") rfl), (List.forall_mem_cons.mpr ⟨He.free_ok X G (c.fact 34 (f := .free "abs") rfl), (List.forall_mem_cons.mpr ⟨He.free_ok X G (c.fact 35 (f := .free "str") rfl), (List.forall_mem_cons.mpr ⟨He.free_ok X G (c.fact 36 (f := .free "max") rfl), (List.forall_mem_cons.mpr ⟨He.free_ok X G (c.fact 37 (f := .free "min") rfl), (List.forall_mem_cons.mpr ⟨He.free_ok X G (c.fact 38 (f := .free "sum") rfl), (List.forall_mem_cons.mpr ⟨He.free_ok X G (c.fact 39 (f := .free "all") rfl), (List.forall_mem_cons.mpr ⟨He.free_ok X G (c.fact 40 (f := .free "any") rfl), (List.forall_mem_cons.mpr ⟨He.free_ok X G (c.fact 41 (f := .free "int") rfl), (List.forall_mem_cons.mpr ⟨He.free_ok X G (c.fact 42 (f := .free "list") rfl), (List.forall_mem_cons.mpr ⟨He.free_ok X G (c.fact 43 (f := .free "divmod") rfl), (List.forall_mem_cons.mpr ⟨He.free_ok X G (c.fact 44 (f := .free "isinstance") rfl), (List.forall_mem_cons.mpr ⟨He.free_ok X G (c.fact 45 (f := .free "range") rfl), (List.forall_mem_cons.mpr ⟨He.free_ok X G (c.fact 46 (f := .free "reversed") rfl), (List.forall_mem_cons.mpr ⟨He.free_ok X G (c.fact 47 (f := .free "enumerate") rfl), (List.forall_mem_cons.mpr ⟨He.free_ok X G (c.fact 48 (f := .free "zip") rfl), (List.forall_mem_cons.mpr ⟨He.free_ok X G (c.fact 49 (f := .free "bool") rfl), (List.forall_mem_cons.mpr ⟨He.free_ok X G (c.fact 50 (f := .free "tuple") rfl), (List.forall_mem_cons.mpr ⟨He.free_ok X G (c.fact 51 (f := .free "dict") rfl), (List.forall_mem_cons.mpr ⟨He.free_ok X G (c.fact 52 (f := .free "set") rfl), (List.forall_mem_cons.mpr ⟨He.free_ok X G (c.fact 53 (f := .free "sorted") rfl), (List.forall_mem_nil _)⟩)⟩)⟩)⟩)⟩)⟩)⟩)⟩)⟩)⟩)⟩)⟩)⟩)⟩)⟩)⟩)⟩)⟩)⟩)⟩)⟩)
    gls := (gls_cons (gl_int X G (c.fact 54 (f := .int "TOOLS" 12) rfl)) (gls_cons (gl_int X G (c.fact 55 (f := .int "NUMBER" 8) rfl)) (gls_cons (gl_int X G (c.fact 56 (f := .int "TASKS" 24) rfl)) (gls_cons (gl_int X G (c.fact 57 (f := .int "ARCS" 600) rfl)) (gls_cons (gl_int X G (c.fact 58 (f := .int "PAIRS" 300) rfl)) (gls_cons (gl_int X G (c.fact 59 (f := .int "MOMENTS" 8) rfl)) (gls_cons (gl_int X G (c.fact 60 (f := .int "GREAT" 1000000000) rfl)) gls_nil)))))))
    xs := (xs_cons (fun X e1 e2 e3 e4 hr => ⟨fun _ => raiseOk_of (by subst e3; rfl) (by subst e3; exact c.fact 61 (f := .exc "NoPlan") rfl) (by subst e3 e4; exact He.glo_ok (by assumption) G (c.fact 63 (f := .glo "NoPlan") rfl)) (by decide), fun f e => nomatch (show some none = some (some f) from e)⟩) (xs_cons (fun X e1 e2 e3 e4 hr => ⟨fun _ => raiseOk_of (by subst e3; rfl) (by subst e3; exact c.fact 62 (f := .exc "NoNet") rfl) (by subst e3 e4; exact He.glo_ok (by assumption) G (c.fact 64 (f := .glo "NoNet") rfl)) (by decide), fun f e => nomatch (show some none = some (some f) from e)⟩) xs_nil))
    cs := fun p hp X' e1 e2 => by subst e1 e2; exact csB_ok rfl rfl (by assumption) G cb p hp
    ics := fun p hp X' e1 e2 => by subst e1 e2; exact icB_ok rfl (by assumption) G cic p hp
    goc := rfl
    on := rfl
    fl := rfl
    xfl := rfl
    cls := ob_cls cob
    noat := ob_noat cob
    meth := ob_meth cob (by decide +kernel)
    mkr := ob_mkr X G cob (by decide +kernel) }
  exact ⟨_, fun s v => (FunD.bindsA (ps := ["_law_script"]) F33 (fun _ _ _ _ _ _ us hl => match us, hl with | [_], _ => rfl)) s [v] rfl, fun base _ _ => law_fn T (i := 33) (d := d33) rfl rfl rfl (fun ns h _ => law_ok ns h)⟩
end Z
open PySem PySem.W PySem.Calls PyProof.Rows
set_option maxRecDepth 100000 in
set_option maxHeartbeats 0 in
theorem PySem.Challenge.cw_stovework_k58_roster_dealt_holds : PySem.Challenge.rw_stovework_k58_roster_dealt.Holds := by
  w_on; o_law
  refine HandSHeadRun.head_any (r := OpenLaw.row PySem.Challenge.rw_stovework_k58_roster_dealt) (q := view (OpenLaw.row PySem.Challenge.rw_stovework_k58_roster_dealt).prog [50]) (H := Z.hk) (ob := Z.ob) (M := 9000) (loose := Z.loose) (d := HandSHeadRun.topDef (OpenLaw.row PySem.Challenge.rw_stovework_k58_roster_dealt).prog 50) (kwd := []) Z.ob_eq
    (by kernel_rfl) (fun s => by kernel_rfl) Z.run (by kernel_rfl) (by kernel_rfl) (by kernel_rfl) (by rfl) (by first | assumption | decide +kernel) (by decide +kernel) ⟨rfl, rfl, rfl, rfl, rfl, by decide +kernel⟩ ?hw ?hc
  case hw => w_witness2
  case hc =>
    refine L3.walk3 (lw := PySem.Challenge.rw_stovework_k58_roster_dealt) (lv := 2 * 8 + 2) (par := "_law_script") rfl (by kernel_rfl) ⟨rfl, by decide, by decide⟩ ?F
    intro w mg fa h Y G hmg0
    obtain ⟨K, KX, c⟩ := Y
    have hmg : mg ("law" : PySem.Str) = some (.ref fa) := by
      have e : (HandSHeadRun.topDef (OpenLaw.row PySem.Challenge.rw_stovework_k58_roster_dealt).prog 50).name = ("law" : PySem.Str) := by kernel_rfl
      rw [← e]
      exact hmg0
    obtain ⟨fd, hb, hF⟩ := Z.facts (Pr := (PySem.Challenge.rw_stovework_k58_roster_dealt).prog) (w := w) KX G hmg c
    exact ⟨K, fd, KX, hb, hF⟩

