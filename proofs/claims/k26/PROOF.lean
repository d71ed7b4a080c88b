import PyProof.Rows.All
import Wide.All
import OpenK.AllK
import Wide.FinOn
import HandS.ForMost
import HandS.ForExc
import HandS.Wide
import HandS.CallSlots
import HandS.TryMany
import HandS.TryElse
import HandS.FStr
import HandS.TupAny
import HandS.Flt
import HandS.TupLe
import HandS.IsInst
import HandS.Small
import HandS.NoneIn
import HandS.Zip
import HandS.Rev
import HandS.Deep
import HandS.RaiseMore
import HandS.ExcIs
import HandS.ExcField
import HandS.ExcInit
import HandS.HotCalls
import KE.KExcIs
import HandS.Conv
import HandS.WideBits
import KE.DataEq
import KE.Datum
import KE.DataCmp
import KE.DatumOrd
import KE.DatumMore
import KE.DatumMoreOrd
import KE.SortData
import HandS.SetKeys
import HandS.Iter
import HandS.More
import PyProof.ListStr
import HandS.Set
import HandS.SetFor
import HandS.SortKw
import KE.KEqNest
import HandS.Defaults
import HandS.HeadHook1
import HandS.HeadHook2
import HandS.HeadHook3
import HandS.HeadHook4
import HandS.Head0
import HandS.Head1
import HandS.Head2
import HandS.HeadEnd
import HandS.EndBits
import KE.IntBitsLaws
import KE.KxText
import KE.IntTextLaws
import KE.KIntText
import KE.IntTextText
import HandS.Text
import PyProof.StrLawsTight
import PySem.Challenge.RW_stovework_k26_stand_in
set_option Elab.async false
set_option linter.all false
set_option maxRecDepth 100000
set_option maxHeartbeats 4000000
namespace L3
open PySem PySem.Spec L2
inductive W where
  | non | bl (b : Bool) | int (i : Int) | str (x : Str) | tup (xs : List W) | scr (xs : List W) | lv (xs : List W) | ref (a : Addr) | exc (a : Addr) (c : Nat) (d : Option Addr)
  deriving Inhabited
abbrev Sx := List (Option W)
inductive GO where
  | lst (xs : List W)
  | dic (lk : Bool) (kvs : List (Key × W))
  | dit (lk : Bool) (kvs : List (List Key × W))
  | ins (c : Nat) (fs : List (Str × W))
  | xd (fs : List (Str × W))
abbrev G := Addr → Option GO
def gup (g : G) (a : Addr) (o : GO) : G := fun b => if b = a then some o else g b
def gdel (g : G) (a : Addr) : G := fun b => if b = a then none else g b
theorem gdel_same {g : G} {a : Addr} : gdel g a a = none := by simp [gdel]
theorem gdel_ne {g : G} {a b : Addr} (h : b ≠ a) : gdel g a b = g b := by simp [gdel, h]
theorem gup_same {g : G} {a : Addr} {o : GO} : gup g a o a = some o := by simp [gup]
def Ext (g g' : G) : Prop := ∀ a o, g a = some o → g' a = some o
theorem Ext.refl {g : G} : Ext g g := fun _ _ h => h
theorem Ext.trans {g g1 g2 : G} (a : Ext g g1) (b : Ext g1 g2) : Ext g g2 := fun c o h => b c o (a c o h)
theorem gup_ne {g : G} {a b : Addr} {o : GO} (h : b ≠ a) : gup g a o b = g b := by simp [gup, h]
structure OC3 where
  name : Str
  init : Nat
  meths : List (Str × Nat)
structure Env3 where
  K : PySem.W.Frag
  cls : Nat → Addr
  ocl : Nat → Addr := fun _ => 0
  on : Nat := 0
  fl : List Str := []
  xfl : List Str := []
def FrL (K : PySem.W.Frag) (H : Hp) (a : Addr) (xs : List V) : Prop := (∃ o, H a = some (.frz o (.lst xs))) ∨ SqL K (fun _ => none) a xs
theorem sql_of_none {K : PySem.W.Frag} {H : Hp} {a : Addr} {xs : List V} (h : SqL K (fun _ => none) a xs) : SqL K H a xs := by
  rcases h with (h | ⟨o, h⟩) | h
  · cases h
  · cases h
  · exact .inr h
theorem FrL.sq {K : PySem.W.Frag} {H : Hp} {a : Addr} {xs : List V} (h : FrL K H a xs) : SqL K H a xs := by
  rcases h with ⟨o, h⟩ | h
  · exact .inl (.inr ⟨o, h⟩)
  · exact sql_of_none h
section
variable (K : PySem.W.Frag)
mutual
def RV (H : Hp) : W → V → Prop
  | .non, v => v = .non
  | .bl b, v => v = .bl b
  | .int i, v => v = .int i
  | .str x, v => v = .str x
  | .ref a, v => v = .ref a
  | .exc a _ _, v => v = .ref a
  | .tup xs, v => ∃ p ys, v = .ref p ∧ H p = some (.tup ys) ∧ RVs H xs ys
  | .scr xs, v => ∃ p ys, v = .ref p ∧ FrL K H p ys ∧ RVs H xs ys
  | .lv xs, v => ∃ p ys, v = .ref p ∧ (∃ o, H p = some (.frz o (.lst ys))) ∧ RVs H xs ys
def RVs (H : Hp) : List W → List V → Prop
  | [], vs => vs = []
  | x :: xs, vs => ∃ v r, vs = v :: r ∧ RV H x v ∧ RVs H xs r
end
end
structure TK (H H' : Hp) : Prop where
  tup : ∀ a xs, H a = some (.tup xs) → H' a = some (.tup xs)
  frz : ∀ a o xs, H a = some (.frz o (.lst xs)) → H' a = some (.frz o (.lst xs))
theorem TK.refl {H : Hp} : TK H H := ⟨fun _ _ h => h, fun _ _ _ h => h⟩
theorem TK.trans {H H1 H2 : Hp} (a : TK H H1) (b : TK H1 H2) : TK H H2 := ⟨fun c xs h => b.tup c xs (a.tup c xs h), fun c o u h => b.frz c o u (a.frz c o u h)⟩
theorem TK.new {H : Hp} {p : Addr} {o : HO} (h : H p = none) : TK H (upd H p o) :=
  ⟨fun a xs e => by rw [upd_ne (ne_of_none e h)]; exact e, fun a x u e => by rw [upd_ne (ne_of_none e h)]; exact e⟩
def Ow : HO → Prop
  | .tup _ => False
  | .frz _ (.lst _) => False
  | _ => True
theorem TK.wr {H : Hp} {p : Addr} {o u : HO} (h : H p = some u) (m : Ow u) : TK H (upd H p o) := by
  have k : ∀ a v, H a = some v → ¬ Ow v → a ≠ p := fun a v e n z => by subst z; rw [h] at e; cases e; exact n m
  exact ⟨fun a xs e => by rw [upd_ne (k a _ e fun z => z)]; exact e, fun a x v e => by rw [upd_ne (k a _ e fun z => z)]; exact e⟩
section
variable {K : PySem.W.Frag} {H H' : Hp}
theorem TK.frl (t : TK H H') {a : Addr} {xs : List V} (h : FrL K H a xs) : FrL K H' a xs := by
  rcases h with ⟨o, h⟩ | h
  · exact .inl ⟨o, t.frz _ _ _ h⟩
  · exact .inr h
mutual
theorem RV.keep (t : TK H H') : ∀ {x : W} {v : V}, RV K H x v → RV K H' x v
  | .non, _, h => by simpa [RV] using h
  | .bl _, _, h => by simpa [RV] using h
  | .int _, _, h => by simpa [RV] using h
  | .str _, _, h => by simpa [RV] using h
  | .ref _, _, h => by simpa [RV] using h
  | .exc _ _ _, _, h => by simpa [RV] using h
  | .tup xs, _, h => by
    rw [RV] at h ⊢
    obtain ⟨p, ys, e, s, r⟩ := h
    exact ⟨p, ys, e, t.tup _ _ s, RVs.keep t r⟩
  | .scr xs, _, h => by
    rw [RV] at h ⊢
    obtain ⟨p, ys, e, s, r⟩ := h
    exact ⟨p, ys, e, t.frl s, RVs.keep t r⟩
  | .lv xs, _, h => by
    rw [RV] at h ⊢
    obtain ⟨p, ys, e, ⟨o, s⟩, r⟩ := h
    exact ⟨p, ys, e, ⟨o, t.frz _ _ _ s⟩, RVs.keep t r⟩
theorem RVs.keep (t : TK H H') : ∀ {xs : List W} {vs : List V}, RVs K H xs vs → RVs K H' xs vs
  | [], _, h => by simpa [RVs] using h
  | x :: xs, _, h => by
    rw [RVs] at h ⊢
    obtain ⟨v, r, e, h1, h2⟩ := h
    exact ⟨v, r, e, RV.keep t h1, RVs.keep t h2⟩
end
theorem RVs.nil : RVs K H [] [] := by rw [RVs]
theorem RVs.cons {x : W} {v : V} {xs : List W} {vs : List V} (h : RV K H x v) (r : RVs K H xs vs) : RVs K H (x :: xs) (v :: vs) := by
  rw [RVs]; exact ⟨v, vs, rfl, h, r⟩
theorem RVs.cons_inv {x : W} {xs : List W} {vs : List V} (h : RVs K H (x :: xs) vs) : ∃ v r, vs = v :: r ∧ RV K H x v ∧ RVs K H xs r := by
  rw [RVs] at h; exact h
theorem RVs.nil_inv {vs : List V} (h : RVs K H [] vs) : vs = [] := by rw [RVs] at h; exact h
theorem RVs.length : ∀ {xs : List W} {vs : List V}, RVs K H xs vs → vs.length = xs.length
  | [], _, h => by rw [h.nil_inv]; rfl
  | x :: xs, _, h => by obtain ⟨v, r, rfl, _, h2⟩ := h.cons_inv; simp [h2.length]
theorem RVs.append : ∀ {xs zs : List W} {vs us : List V}, RVs K H xs vs → RVs K H zs us → RVs K H (xs ++ zs) (vs ++ us)
  | [], _, _, _, h, q => by rw [h.nil_inv]; exact q
  | x :: xs, _, _, _, h, q => by obtain ⟨v, r, rfl, h1, h2⟩ := h.cons_inv; exact .cons h1 (h2.append q)
theorem RVs.get : ∀ {xs : List W} {vs : List V} {i : Nat} {x : W}, RVs K H xs vs → xs[i]? = some x → ∃ v, vs[i]? = some v ∧ RV K H x v
  | [], _, _, _, _, e => by simp at e
  | x :: xs, _, 0, _, h, e => by obtain ⟨v, r, rfl, h1, h2⟩ := h.cons_inv; simp at e; subst e; exact ⟨v, rfl, h1⟩
  | x :: xs, _, i + 1, _, h, e => by
    obtain ⟨v, r, rfl, h1, h2⟩ := h.cons_inv
    obtain ⟨u, q1, q2⟩ := h2.get (i := i) (by simpa using e)
    exact ⟨u, by simpa using q1, q2⟩
theorem RVs.take : ∀ {xs : List W} {vs : List V} (n : Nat), RVs K H xs vs → RVs K H (xs.take n) (vs.take n)
  | _, _, 0, _ => by simpa using RVs.nil
  | [], _, _ + 1, h => by rw [h.nil_inv]; exact RVs.nil
  | x :: xs, _, n + 1, h => by obtain ⟨v, r, rfl, h1, h2⟩ := h.cons_inv; exact .cons h1 (h2.take n)
theorem RVs.drop : ∀ {xs : List W} {vs : List V} (n : Nat), RVs K H xs vs → RVs K H (xs.drop n) (vs.drop n)
  | _, _, 0, h => by simpa using h
  | [], _, _ + 1, h => by rw [h.nil_inv]; exact RVs.nil
  | x :: xs, _, n + 1, h => by obtain ⟨v, r, rfl, h1, h2⟩ := h.cons_inv; simpa using h2.drop n
theorem RVs.set {z : W} {u : V} (q : RV K H z u) : ∀ {xs : List W} {vs : List V} (n : Nat), RVs K H xs vs → RVs K H (xs.set n z) (vs.set n u)
  | [], _, _, h => by rw [h.nil_inv]; exact RVs.nil
  | x :: xs, _, 0, h => by obtain ⟨v, r, rfl, h1, h2⟩ := h.cons_inv; exact .cons q h2
  | x :: xs, _, n + 1, h => by obtain ⟨v, r, rfl, h1, h2⟩ := h.cons_inv; exact .cons h1 (h2.set q n)
theorem RVs.reverse : ∀ {xs : List W} {vs : List V}, RVs K H xs vs → RVs K H xs.reverse vs.reverse
  | [], _, h => by rw [h.nil_inv]; exact RVs.nil
  | x :: xs, _, h => by obtain ⟨v, r, rfl, h1, h2⟩ := h.cons_inv; simpa using (h2.reverse).append (.cons h1 .nil)
theorem RVs.dropLast {xs : List W} {vs : List V} (h : RVs K H xs vs) : RVs K H xs.dropLast vs.dropLast := by
  rw [List.dropLast_eq_take, List.dropLast_eq_take, h.length]; exact h.take _
theorem RVs.ints : ∀ {is : List Int} {vs : List V}, RVs K H (is.map W.int) vs → vs = is.map V.int
  | [], _, h => h.nil_inv
  | i :: is, _, h => by obtain ⟨v, r, rfl, h1, h2⟩ := h.cons_inv; rw [RV] at h1; rw [h1, h2.ints]; rfl
theorem RVs.of_ints : ∀ (is : List Int), RVs K H (is.map W.int) (is.map V.int)
  | [] => .nil
  | i :: is => .cons (by rw [RV]) (RVs.of_ints is)
theorem RVs.strs : ∀ {is : List Str} {vs : List V}, RVs K H (is.map W.str) vs → vs = is.map V.str
  | [], _, h => h.nil_inv
  | i :: is, _, h => by obtain ⟨v, r, rfl, h1, h2⟩ := h.cons_inv; rw [RV] at h1; rw [h1, h2.strs]; rfl
theorem RVs.of_strs : ∀ (is : List Str), RVs K H (is.map W.str) (is.map V.str)
  | [] => .nil
  | i :: is => .cons (by rw [RV]) (RVs.of_strs is)
end
def SR (K : PySem.W.Frag) (H : Hp) : Sx → St → Prop
  | [], σ => σ = []
  | o :: s, σ => ∃ q r, σ = q :: r ∧ (∀ w, o = some w → ∃ v, q = some v ∧ RV K H w v) ∧ SR K H s r
section
variable {K : PySem.W.Frag} {H H' : Hp}
theorem SR.keep (t : TK H H') : ∀ {s : Sx} {σ : St}, SR K H s σ → SR K H' s σ
  | [], _, h => h
  | o :: s, _, h => by
    obtain ⟨q, r, rfl, h1, h2⟩ := h
    refine ⟨q, r, rfl, fun w e => ?_, SR.keep t h2⟩
    obtain ⟨v, e1, e2⟩ := h1 w e
    exact ⟨v, e1, e2.keep t⟩
theorem SR.get : ∀ {s : Sx} {σ : St} {i : Nat} {w : W}, SR K H s σ → s[i]? = some (some w) → ∃ v, σ[i]? = some (some v) ∧ RV K H w v
  | [], _, _, _, _, e => by simp at e
  | o :: s, _, 0, w, h, e => by
    obtain ⟨q, r, rfl, h1, h2⟩ := h
    simp at e
    obtain ⟨v, e1, e2⟩ := h1 w e
    exact ⟨v, by simp [e1], e2⟩
  | o :: s, _, i + 1, w, h, e => by
    obtain ⟨q, r, rfl, h1, h2⟩ := h
    obtain ⟨v, e1, e2⟩ := SR.get (i := i) h2 (by simpa using e)
    exact ⟨v, by simpa using e1, e2⟩
theorem SR.set {w : W} {v : V} (q : RV K H w v) : ∀ {s : Sx} {σ : St} (i : Nat), SR K H s σ → SR K H (s.set i (some w)) (σ.set i (some v))
  | [], σ, _, h => by rw [show σ = [] from h]; exact rfl
  | o :: s, _, 0, h => by
    obtain ⟨q', r, rfl, h1, h2⟩ := h
    exact ⟨some v, r, rfl, fun w' e => by cases e; exact ⟨v, rfl, q⟩, h2⟩
  | o :: s, _, i + 1, h => by
    obtain ⟨q', r, rfl, h1, h2⟩ := h
    exact ⟨q', _, rfl, h1, SR.set q i h2⟩
theorem SR.unset : ∀ {s : Sx} {σ : St} (i : Nat), SR K H s σ → SR K H (s.set i none) (σ.set i none)
  | [], σ, _, h => by rw [show σ = [] from h]; exact rfl
  | o :: s, _, 0, h => by
    obtain ⟨q', r, rfl, h1, h2⟩ := h
    exact ⟨none, r, rfl, (fun w' e => nomatch e), h2⟩
  | o :: s, _, i + 1, h => by
    obtain ⟨q', r, rfl, h1, h2⟩ := h
    exact ⟨q', _, rfl, h1, SR.unset i h2⟩
theorem SR.start : ∀ {ws : List W} {vs : List V} (n : Nat), RVs K H ws vs → SR K H (ws.map some ++ List.replicate n none) (vs.map some ++ List.replicate n none)
  | [], _, n, h => by
    rw [h.nil_inv]
    show SR K H (List.replicate n none) (List.replicate n none)
    induction n with
    | zero => rfl
    | succ n ih => exact ⟨none, _, rfl, (fun w e => nomatch e), ih⟩
  | w :: ws, _, n, h => by
    obtain ⟨v, r, rfl, h1, h2⟩ := h.cons_inv
    exact ⟨some v, _, rfl, fun w' e => by cases e; exact ⟨v, rfl, h1⟩, SR.start n h2⟩
theorem SR.length : ∀ {s : Sx} {σ : St}, SR K H s σ → σ.length = s.length
  | [], σ, h => by rw [show σ = [] from h]; rfl
  | o :: s, _, h => by obtain ⟨q', r, rfl, h1, h2⟩ := h; simp [h2.length]
end
def kW : Key → W
  | .inl i => .int i
  | .inr x => .str x
def ktW (l : List Key) : W := .tup (l.map kW)
section
variable (E : Env3)
def DicAt (H : Hp) (a : Addr) (lk : Bool) (u : HO) : Prop := match lk with
  | false => H a = some u
  | true => ∃ od, H a = some (.frz od u)
def RO (H : Hp) (a : Addr) : GO → Prop
  | .lst xs => ∃ ys, H a = some (.lst ys) ∧ RVs E.K H xs ys
  | .dic lk kvs => ∃ l : List (Key × V), DicAt H a lk (.dK l) ∧ kvs.map (·.1) = l.map (·.1) ∧ RVs E.K H (kvs.map (·.2)) (l.map (·.2))
  | .dit lk kvs => ∃ l : List (List Key × V), DicAt H a lk (.dT l) ∧ kvs.map (·.1) = l.map (·.1) ∧ RVs E.K H (kvs.map (·.2)) (l.map (·.2))
  | .ins c fs => c < E.on ∧ (∀ f ∈ fs.map (·.1), f ∈ E.fl) ∧ ∃ dx l, H a = some (.ins (E.ocl c) dx l) ∧ fs.map (·.1) = l.map (·.1) ∧ RVs E.K H (fs.map (·.2)) (l.map (·.2))
  | .xd fs => ∃ l, H a = some (.xd l) ∧ fs.map (·.1) = l.map (·.1) ∧ RVs E.K H (fs.map (·.2)) (l.map (·.2))
def GR (g : G) (H : Hp) : Prop := ∀ a o, g a = some o → RO E H a o
end
section
variable {E : Env3} {H H' : Hp} {g : G}
theorem DicAt.some {a : Addr} {lk : Bool} {u : HO} (h : DicAt H a lk u) (m : Ow u) (m' : ∀ od, Ow (.frz od u)) : ∃ v, H a = some v ∧ Ow v := by
  cases lk with
  | false => exact ⟨_, h, m⟩
  | true => obtain ⟨od, e⟩ := h; exact ⟨_, e, m' od⟩
theorem DicAt.keep {a : Addr} {lk : Bool} {u : HO} (k : H' a = H a) (h : DicAt H a lk u) : DicAt H' a lk u := by
  cases lk with
  | false => exact k.trans h
  | true => obtain ⟨od, e⟩ := h; exact ⟨od, k.trans e⟩
theorem RO.some {a : Addr} {o : GO} (h : RO E H a o) : ∃ u, H a = some u ∧ Ow u := by
  cases o with
  | lst xs => obtain ⟨ys, e, _⟩ := h; exact ⟨_, e, trivial⟩
  | dic lk xs => obtain ⟨ys, e, _⟩ := h; exact e.some trivial fun _ => trivial
  | dit lk xs => obtain ⟨ys, e, _⟩ := h; exact e.some trivial fun _ => trivial
  | ins c xs => obtain ⟨_, _, dx, ys, e, _⟩ := h; exact ⟨_, e, trivial⟩
  | xd xs => obtain ⟨ys, e, _⟩ := h; exact ⟨_, e, trivial⟩
theorem RO.keep {a : Addr} {o : GO} (t : TK H H') (k : H' a = H a) (h : RO E H a o) : RO E H' a o := by
  cases o with
  | lst xs => obtain ⟨ys, e, r⟩ := h; exact ⟨ys, k.trans e, r.keep t⟩
  | dic lk xs => obtain ⟨ys, e, q, r⟩ := h; exact ⟨ys, e.keep k, q, r.keep t⟩
  | dit lk xs => obtain ⟨ys, e, q, r⟩ := h; exact ⟨ys, e.keep k, q, r.keep t⟩
  | ins c xs => obtain ⟨o1, o2, dx, ys, e, q, r⟩ := h; exact ⟨o1, o2, dx, ys, k.trans e, q, r.keep t⟩
  | xd xs => obtain ⟨ys, e, q, r⟩ := h; exact ⟨ys, k.trans e, q, r.keep t⟩
theorem GR.sub (h : GR E g H) {g2 : G} (e : ∀ a o, g2 a = some o → g a = some o) : GR E g2 H := fun a o q => h a o (e a o q)
theorem GR.free (h : GR E g H) {a : Addr} (n : H a = none) : g a = none := by
  cases e : g a with
  | none => rfl
  | some o => obtain ⟨u, q, _⟩ := (h a o e).some; rw [n] at q; cases q
theorem GR.new (h : GR E g H) {p : Addr} {o : GO} {u : HO} (n : H p = none) (r : RO E (upd H p u) p o) : GR E (gup g p o) (upd H p u) := fun a x e => by
  by_cases z : a = p
  · subst z; rw [gup_same] at e; cases e; exact r
  · rw [gup_ne z] at e; exact (h a x e).keep (TK.new n) (upd_ne z)
theorem GR.new' (h : GR E g H) {p : Addr} {u : HO} (n : H p = none) : GR E g (upd H p u) := fun a x e =>
  (h a x e).keep (TK.new n) (upd_ne fun z => by subst z; rw [h.free n] at e; cases e)
theorem GR.wr (h : GR E g H) {p : Addr} {o o' : GO} {u : HO} (e0 : g p = some o) (r : RO E (upd H p u) p o') : GR E (gup g p o') (upd H p u) := fun a x e => by
  obtain ⟨v, hv, m⟩ := (h p o e0).some
  by_cases z : a = p
  · subst z; rw [gup_same] at e; cases e; exact r
  · rw [gup_ne z] at e; exact (h a x e).keep (TK.wr hv m) (upd_ne z)
theorem GR.tk (h : GR E g H) {p : Addr} {o : GO} {u : HO} (e0 : g p = some o) : TK H (upd H p u) := by
  obtain ⟨v, hv, m⟩ := (h p o e0).some
  exact TK.wr hv m
end
end L3
set_option maxRecDepth 100000
set_option maxHeartbeats 4000000
namespace L3
open PySem PySem.Spec L2 PyProof.Rows
section
variable {prog : Program} {w : World} {A : Around} {E : Value → Shared → Prop} {s : Shared}
theorem extend_rev {R : Result → Shared → Prop} (hh : A.handled = none) {it l S : Addr} {items : Array Value} (res : Value) (c₀ : Nat) (hS : s.heap.get? S = some { cls := .type "list", data := .seq #[] c₀ })
    (hit : s.heap.IsRevIter it l ((items.size : Int) - 1)) (hl : s.heap.IsList l items) (hne : l ≠ it) (hSi : S ≠ it) (hSl : S ≠ l) (hn : items.size ≤ sizeLine)
    (hR : ∀ h' tk acc' c', (∀ b o, b ≠ S → b ≠ it → s.heap.get? b = some o → h'.get? b = some o) → h'.get? S = some { cls := .type "list", dict := none, data := .seq acc' c', slots := #[] } →
      ItemsOf (fun i v => items[items.size - 1 - i]? = some v) acc' items.size → R (.ok (.ret res)) { s with heap := h', toks := tk }) :
    wpAny (model prog w) A.in1 (Builtin.List.listExtendWith (.ref S) (.ref it) res)
      (fun fin s' => match fin with | .done f => R (.ok f) s' | .again c' => c'.quiet = true ∧ codeAny (model prog w) A c' R s') (fun e s' => R (.error e) s') s := by
  have W := (Walks.listRev (prog := prog) (w := w) (A := A.in1) hh it l hne items).toS
  have hSf : S ∉ [it, l] := by simp only [List.mem_cons, List.not_mem_nil, or_false, not_or]; exact ⟨hSi, hSl⟩
  have hT : s.TypeIs (.ref it) "list_reverseiterator" := hit.typeIs
  have h1 : Builtin.List.listSameRef (.ref S) (.ref it) = false := by simp [Builtin.List.listSameRef, hSi]
  unfold Builtin.List.listExtendWith
  refine wpAny_bind (wpAny_typeOf hT ?_)
  rw [if_neg (by rw [h1]; decide)]
  refine wpAny_bind (wpAny_pyIter_revIter hit ?_)
  refine wpAny_bind (wpAny_holding ?_)
  unfold Builtin.List.listLengthHint
  refine wpAny_bind (wpAny_specialOf hT RT.nolen_lri ?_)
  show wpAny _ A.in1 (specialOf (Value.ref it) (Str.ofString "__length_hint__") >>= _) _ _ _
  refine wpAny_bind (wpAny_specialOf hT RT.hint_lri ?_)
  generalize hid : ("list_reverseiterator.__length_hint__" : String) = id0
  wp_delta
  rw [show splitId id0 = some ("list_reverseiterator", "__length_hint__") from by subst hid; decide +kernel]
  subst hid
  refine wpAny_bind (wpAny_isInstance (b := true) hT (by rw [isSubtype_type]; kernel_rfl) ?_)
  refine wpAny_pure ?_
  rw [if_neg (by decide)]
  have e0 : ((items.size : Nat) : Int) - 1 - ((0 : Nat) : Int) = (items.size : Int) - 1 := by omega
  refine wpAny_pure ⟨plainId_quiet F.plain_extend_loop _, codeAny_extend_loopS W hn _ hSf _ items.size 0 _ _ _ rfl (Nat.zero_le _) ⟨Nat.zero_le _, by rw [e0]; exact hit, hl⟩ hS (ItemsOf.nil _) fun s' acc' c' hm hS' hacc => ?_⟩
  rw [Moved.eq_with hm]
  refine hR s'.heap s'.toks acc' c' (fun b o hb hb2 e => hm.heap b o (fun hmem => ?_) e) hS' hacc
  rcases List.mem_cons.mp hmem with e' | hmem
  · exact hb e'
  · exact hb2 (List.mem_singleton.mp hmem)
theorem call_list_revI {it l : Addr} {items : Array Value} {Q : Value → Shared → Prop} (hh : A.handled = none) (hit : s.heap.IsRevIter it l ((items.size : Int) - 1)) (hl : s.heap.IsList l items) (hne : l ≠ it) (hn : items.size ≤ sizeLine)
    (hQ : ∀ h' tk acc' c', (∀ b o, b ≠ it → s.heap.get? b = some o → h'.get? b = some o) →
      h'.get? s.heap.objs.size = some { cls := .type "list", dict := none, data := .seq acc' c', slots := #[] } → ItemsOf (fun i v => items[items.size - 1 - i]? = some v) acc' items.size → Q (.ref s.heap.objs.size) { s with heap := h', toks := tk }) :
    wpAny (model prog w) A (call (.type "list") [.ref it]) Q E s := by
  obtain ⟨oi, hoi, _⟩ := id hit
  obtain ⟨ol, hol, _⟩ := id hl
  have hSi : s.heap.objs.size ≠ it := Nat.ne_of_gt (Heap.lt_size hoi)
  have hSl : s.heap.objs.size ≠ l := Nat.ne_of_gt (Heap.lt_size hol)
  refine callType_codes (Q₁ := fun obj s₁ => obj = .ref s.heap.objs.size ∧ s₁ = { s with heap := s.heap.push { cls := .type "list", data := .seq #[] } }) F.called_list (F.typeCall_list_1 _) F.entry_list_init
    (code_list_new _ ⟨rfl, rfl⟩) fun obj s₁ h₁ => ?_
  obtain ⟨rfl, rfl⟩ := h₁
  have hS : (s.heap.push { cls := .type "list", data := .seq #[] }).get? s.heap.objs.size = some { cls := .type "list", data := .seq #[] } := Heap.get?_push_size _ rfl
  refine ⟨⟨_, hS, rfl⟩, F.args_list_init_2 _ _, ?_⟩
  show wpAny _ _ (do let old ← Builtin.List.listItems (.ref s.heap.objs.size); Builtin.List.listUpdate (.ref s.heap.objs.size) (fun _ => #[]); letGo old.toList.reverse; Builtin.List.listExtendWith (.ref s.heap.objs.size) (.ref it) .none) _ _ _
  refine wpAny_bind ?_
  unfold Builtin.List.listItems
  refine wpAny_bind (wpAny_seqItems hS rfl (wpAny_pure ?_))
  show wpAny _ _ (updateSeq s.heap.objs.size (fun _ => #[]) >>= fun _ => letGo (#[] : Array Value).toList.reverse >>= fun _ => Builtin.List.listExtendWith (.ref s.heap.objs.size) (.ref it) .none) _ _ _
  refine wpAny_bind (wpAny_updateSeq hS rfl ?_)
  have hS₂ := Heap.get?_update_self (Obj.mapSeq (fun _ => (#[] : Array Value))) hS rfl
  have oth : ∀ b o, s.heap.get? b = some o → ((s.heap.push { cls := .type "list", data := .seq #[] }).update s.heap.objs.size (Obj.mapSeq (fun _ => (#[] : Array Value)))).get? b = some o :=
    fun b o e => (Heap.get?_update_other _ _ (Ne.symm (Nat.ne_of_lt (Heap.lt_size e)))).trans (Heap.get?_push_of_some _ e)
  have hit2 : ((s.heap.push { cls := .type "list", data := .seq #[] }).update s.heap.objs.size (Obj.mapSeq (fun _ => (#[] : Array Value)))).IsRevIter it l ((items.size : Int) - 1) := hit.at fun o e => oth it o e
  refine wpAny_bind (wpAny_letGo ?_)
  refine extend_rev (A := A.in1) (R := wants (fun r s₂ => r = Value.none ∧ Q (.ref s.heap.objs.size) s₂) E) (s := { s with heap := (s.heap.push { cls := .type "list", data := .seq #[] }).update s.heap.objs.size (Obj.mapSeq (fun _ => (#[] : Array Value))) }) hh .none _ hS₂ hit2 ?_ hne hSi hSl hn fun h' tk acc' c' hk hS' hacc => ?_
  · obtain ⟨o, ho, r⟩ := id hl
    exact ⟨o, oth l o ho, r⟩
  · exact ⟨rfl, hQ h' tk acc' c' (fun b o hb e => hk b o (Nat.ne_of_lt (Heap.lt_size e)) hb (oth b o e)) hS' hacc⟩
end
def tLstRev (K : PySem.W.Frag) (te : TE) : TE := fun σ H Q => te σ H fun v H1 => ∃ (a : Addr) (xs : List V), v = .ref a ∧ SqL K H1 a xs ∧ ∀ q, H1 q = none → Q (.ref q) (upd H1 q (.lst xs.reverse))
section
variable {X : Cx}
theorem pe_lstRev {e : Expr} {te : TE} {p p2 pos pos2 : Pos} (hc : X.calm = true) (hg : Gl X "list") (hm : X.mg "list" = none) (hg2 : Gl X "reversed") (hm2 : X.mg "reversed" = none) (he : PE X e te)
    (hs : starEach [e] X.env = (false, eval e X.env) :: starEach [] X.env)
    (hs2 : starEach [.Call (.Name "reversed" p2) [e] [] pos2] X.env = (false, eval (.Call (.Name "reversed" p2) [e] [] pos2) X.env) :: starEach [] X.env := by rfl) :
    PE X (.Call (.Name "list" p) [.Call (.Name "reversed" p2) [e] [] pos2] [] pos) (tLstRev X.K te) := by
  refine ⟨fun pins s σ H Q I h => ?_⟩
  refine Call_ (ld_blt I hg hm boot_list (PyProof.Rows.callWith_type1 (args_cons (Call_ (ld_blt I hg2 hm2 PyProof.Rows.boot_reversed (PyProof.Rows.callWith_type1 (args_cons (thn (he.run pins s σ H _ I h) fun u s1 ⟨v, H1, I1, r1, q1⟩ => args_nil ?_) hs) hs rfl))) hs2) hs2 rfl))
  obtain ⟨a, xs, ev, hq, q⟩ := q1
  subst ev
  obtain rfl : u = Value.ref a := r1
  obtain ⟨its, rv, p', hz⟩ := I1.list hq
  refine call_reversed_list p'.isList (args_nil ?_)
  have k0 : ∀ b o, s1.heap.get? b = some o → (s1.heap.push (revObj a ((its.toArray.size : Int) - 1))).get? b = some o := fun b o e => Heap.get?_push_of_some _ e
  have I2 : L2.Inv X pins σ H1 { s1 with heap := s1.heap.push (revObj a ((its.toArray.size : Int) - 1)) } := I1.kept (t' := s1.toks) k0
  obtain ⟨f0, f1, f2, f3, f4, f5⟩ := I1.fpOk (H' := H1) (b := s1.heap.objs.size) (Nat.le_refl _) (I1.hok.fresh (Nat.le_refl _))
  have hl := p'.isList
  obtain ⟨ol, hol, _⟩ := id hl
  have hne : a ≠ s1.heap.objs.size := Nat.ne_of_lt (Heap.lt_size hol)
  have hn : its.toArray.size ≤ sizeLine := by rw [List.size_toArray, ← rv.length]; exact hz
  refine call_list_revI (s := { s1 with heap := s1.heap.push (revObj a ((its.toArray.size : Int) - 1)) }) (I1.ok.hd hc) ⟨_, Heap.get?_push_size _ rfl, rfl, rfl⟩ (hl.push _) hne hn fun h' tk acc c' hk hS hi => ?_
  have hS' : h'.get? (s1.heap.push (revObj a ((its.toArray.size : Int) - 1))).objs.size = some { cls := .type "list", dict := none, data := .seq acc.toList.toArray c', slots := #[] } := by rw [Array.toArray_toList]; exact hS
  have hfr : H1 (s1.heap.push (revObj a ((its.toArray.size : Int) - 1))).objs.size = none := I2.hok.fresh (Nat.le_refl _)
  refine ⟨.ref _, upd H1 _ (.lst xs.reverse), I2.turnedNew (t' := tk) (ch := [s1.heap.objs.size]) (fun b o hb e => hk b o (by simpa using hb) e) (fun b hb => ?_) (Nat.le_refl _) (show ObjOk X.prog X.w _ h' _ (.lst xs.reverse) from ⟨by rw [List.length_reverse]; exact hz, acc.toList, c', RT.vals_rev rv hi, hS'⟩), rfl, q _ hfr⟩
  rw [List.mem_singleton.mp hb]
  exact I1.fpOk (H' := H1) (b := s1.heap.objs.size) (Nat.le_refl _) (I1.hok.fresh (Nat.le_refl _))
end
def tChain3 (r r' r'' : R2) (ta tb tc td : TE) : TE := fun σ H Q => ta σ H fun x H1 => tb σ H1 fun y H2 => r x y H2 fun z H3 => ∃ k, z = .bl k ∧
  (if k = true then tc σ H3 fun w' H4 => r' y w' H4 fun z2 H5 => ∃ k2, z2 = .bl k2 ∧ (if k2 = true then td σ H5 fun w2 H6 => r'' w' w2 H6 Q else Q (.bl false) H5) else Q (.bl false) H3)
section
variable {X : Cx} {a b c d : Expr} {ta tb tc td : TE} {pos : Pos}
theorem pe_chain3 {op op' op'' : CmpOp} {r r' r'' : R2} (ho : OpR X (compareOp op) r) (ho' : OpR X (compareOp op') r') (ho'' : OpR X (compareOp op'') r'') (ha : PE X a ta) (hb : PE X b tb) (hc : PE X c tc) (hd : PE X d td)
    (hm : lastMarks [op, op', op''] [b, c, d] = false) : PE X (.Compare a [op, op', op''] [b, c, d] pos) (tChain3 r r' r'' ta tb tc td) := by
  refine ⟨fun pins s σ H Q I h => ?_⟩
  refine Compare_chain (thn (ha.run pins s σ H _ I h) fun v s1 ⟨x, H1, I1, r1, q1⟩ => chain_link (thn (hb.run pins s1 σ H1 _ I1 q1) fun u s2 ⟨y, H2, I2, r2, q2⟩ =>
    thn (ho pins s2 σ H2 x y v u _ I2 r1 r2 q2) fun d s3 ⟨z, H3, I3, r3, k, e, q3⟩ => ?_)) hm
  subst e
  cases r3
  refine wpAny_truthy_bool ?_
  cases k with
  | false => exact ite_ff ⟨.bl false, H3, I3, rfl, q3⟩
  | true =>
    refine ite_tt (chain_link (thn (hc.run pins s3 σ H3 _ I3 q3) fun w' s4 ⟨z', H4, I4, r4, q4⟩ => thn (ho' pins s4 σ H4 y z' u w' _ I4 r2 r4 q4) fun d2 s5 ⟨z2, H5, I5, r5, k2, e2, q5⟩ => ?_))
    subst e2
    cases r5
    refine wpAny_truthy_bool ?_
    cases k2 with
    | false => exact ite_ff ⟨.bl false, H5, I5, rfl, q5⟩
    | true => exact ite_tt (chain_last (thn (hd.run pins s5 σ H5 _ I5 q5) fun w2 s6 ⟨z6, H6, I6, r6, q6⟩ => ho'' pins s6 σ H6 z' z6 w' w2 Q I6 r4 r6 q6))
theorem pt_chain3 {op op' op'' : CmpOp} {r r' r'' : R2} (ho : OpR X (compareOp op) r) (ho' : OpR X (compareOp op') r') (ho'' : OpR X (compareOp op'') r'') (ha : PE X a ta) (hb : PE X b tb) (hc : PE X c tc) (hd : PE X d td)
    (hm : lastMarks [op, op', op''] [b, c, d] = false) : PT X (.Compare a [op, op', op''] [b, c, d] pos) (tTest (tChain3 r r' r'' ta tb tc td)) := by
  refine ⟨fun pins s σ H Q I h => ?_⟩
  refine isTrue_chain (thn (ha.run pins s σ H _ I h) fun v s1 ⟨x, H1, I1, r1, q1⟩ => test_link (thn (hb.run pins s1 σ H1 _ I1 q1) fun u s2 ⟨y, H2, I2, r2, q2⟩ =>
    thn (ho pins s2 σ H2 x y v u _ I2 r1 r2 q2) fun d s3 ⟨z, H3, I3, r3, k, e, q3⟩ => ?_)) hm
  subst e
  cases r3
  refine wpAny_truthy_bool ?_
  cases k with
  | false =>
    obtain ⟨k', e', q'⟩ := q3
    cases e'
    exact ite_ff ⟨H3, I3, q'⟩
  | true =>
    refine ite_tt (test_link (thn (hc.run pins s3 σ H3 _ I3 q3) fun w' s4 ⟨z', H4, I4, r4, q4⟩ => thn (ho' pins s4 σ H4 y z' u w' _ I4 r2 r4 q4) fun d2 s5 ⟨z2, H5, I5, r5, k2, e2, q5⟩ => ?_))
    subst e2
    cases r5
    refine wpAny_truthy_bool ?_
    cases k2 with
    | false =>
      obtain ⟨k', e', q'⟩ := q5
      cases e'
      exact ite_ff ⟨H5, I5, q'⟩
    | true =>
      refine ite_tt (test_last (thn (hd.run pins s5 σ H5 _ I5 q5) fun w2 s6 ⟨z6, H6, I6, r6, q6⟩ => thn (ho'' pins s6 σ H6 z' z6 w' w2 _ I6 r4 r6 q6) fun d3 s7 ⟨z7, H7, I7, r7, k3, e3, q7⟩ => ?_))
      subst e3
      cases r7
      exact wpAny_truthy_bool ⟨H7, I7, q7⟩
end
end L3
set_option maxRecDepth 100000
set_option maxHeartbeats 4000000
namespace L3
open PySem PySem.Spec L2
abbrev VK3 := W → G → Prop
abbrev XK3 := Nat → List (Str × W) → G → Prop
abbrev TE3 := XK3 → Sx → G → VK3 → Prop
abbrev TA3 := XK3 → Sx → G → (List W → G → Prop) → Prop
abbrev TT3 := XK3 → Sx → G → (Bool → G → Prop) → Prop
structure Ends3 where
  nx : Sx → G → Prop
  rt : VK3
  bk : Sx → G → Prop
  ct : Sx → G → Prop
  ex : Nat → List (Str × W) → Sx → G → Prop
abbrev TS3 := Ends3 → Sx → G → Prop
abbrev Ends3.xk (D : Ends3) (s : Sx) : XK3 := fun c fs g => D.ex c fs s g
structure FK (g : G) (H : Hp) (g' : G) (H' : Hp) : Prop where
  own : ∀ a u, H a = some u → g a = none → H' a = some u ∧ g' a = none
  frz : ∀ a od u, H a = some (.frz od u) → H' a = some (.frz od u)
section
variable {E : Env3} {g g' g1 g2 : G} {H H' H1 H2 : Hp} {p : Addr}
theorem FK.refl : FK g H g H := ⟨fun _ _ h n => ⟨h, n⟩, fun _ _ _ h => h⟩
theorem FK.trans (a : FK g H g1 H1) (b : FK g1 H1 g2 H2) : FK g H g2 H2 := ⟨fun c u h n => let ⟨x, y⟩ := a.own c u h n; b.own c u x y, fun c od u h => b.frz c od u (a.frz c od u h)⟩
theorem FK.new {o : GO} {u : HO} (n : H p = none) : FK g H (gup g p o) (upd H p u) := ⟨fun a v h k => by
  have z : a ≠ p := ne_of_none h n
  exact ⟨by rw [upd_ne z]; exact h, by rw [gup_ne z]; exact k⟩, fun a od v h => by rw [upd_ne (ne_of_none h n)]; exact h⟩
theorem FK.new' {u : HO} (n : H p = none) : FK g H g (upd H p u) := ⟨fun a v h k => ⟨by rw [upd_ne (ne_of_none h n)]; exact h, k⟩, fun a od v h => by rw [upd_ne (ne_of_none h n)]; exact h⟩
theorem FK.wr {o o' : GO} {u u0 : HO} (e : g p = some o) (h0 : H p = some u0) (n : ∀ od v, u0 ≠ .frz od v) : FK g H (gup g p o') (upd H p u) := ⟨fun a v h k => by
  have z : a ≠ p := fun q => by subst q; rw [e] at k; cases k
  exact ⟨by rw [upd_ne z]; exact h, by rw [gup_ne z]; exact k⟩, fun a od v h => by
  have z : a ≠ p := fun q => by subst q; rw [h0] at h; cases h; exact n _ _ rfl
  rw [upd_ne z]; exact h⟩
theorem GR.notmut (r : GR E g H) {a : Addr} {u : HO} (h : H a = some u) (m : ¬ Ow u) : g a = none := by
  cases e : g a with
  | none => rfl
  | some o =>
    obtain ⟨v, hv, k⟩ := (r a o e).some
    rw [h] at hv; cases hv; exact (m k).elim
theorem FK.tk (f : FK g H g' H') (r : GR E g H) : TK H H' :=
  ⟨fun a xs h => (f.own a _ h (r.notmut h fun z => z)).1, fun a o xs h => f.frz a o _ h⟩
end
def XR (E : Env3) (g0 : G) (H0 H : Hp) (c : Nat) (fs : List (Str × W)) (cls : Value) (d : Option Addr) : Prop :=
  cls = .ref (E.cls c) ∧ ((d = none ∧ fs = []) ∨ ∃ a l, fs ≠ [] ∧ d = some a ∧ (∀ u, H0 a = some u → g0 a ≠ none) ∧ H a = some (.xd l) ∧ fs.map (·.1) = l.map (·.1) ∧ RVs E.K H (fs.map (·.2)) (l.map (·.2)))
section
variable (E : Env3)
def KQ (g : G) (H : Hp) (q : VK3) (Q : VK) : Prop := ∀ w g' v H', GR E g' H' → RV E.K H' w v → FK g H g' H' → q w g' → Q v H'
def KB (g : G) (H : Hp) (q : Bool → G → Prop) (Q : Bool → Hp → Prop) : Prop := ∀ b g' H', GR E g' H' → FK g H g' H' → q b g' → Q b H'
def KA (g : G) (H : Hp) (q : List W → G → Prop) (Q : List V → Hp → Prop) : Prop := ∀ ws g' vs H', GR E g' H' → RVs E.K H' ws vs → FK g H g' H' → q ws g' → Q vs H'
def KX (g : G) (H : Hp) (x : XK3) (X : XK) : Prop := ∀ c fs g' cls d H', GR E g' H' → XR E g H H' c fs cls d → FK g H g' H' → x c fs g' → X cls d H'
def KN (g : G) (H : Hp) (n : Sx → G → Prop) (N : L2.St → Hp → Prop) : Prop := ∀ s' g' σ' H', SR E.K H' s' σ' → GR E g' H' → FK g H g' H' → n s' g' → N σ' H'
structure KD (g : G) (H : Hp) (d : Ends3) (D : Ends) (w : WX) : Prop where
  nx : KN E g H d.nx D.nx
  rt : KQ E g H d.rt D.rt
  bk : KN E g H d.bk D.bk
  ct : KN E g H d.ct D.ct
  ex : ∀ c fs s' g' σ' cls x H', SR E.K H' s' σ' → GR E g' H' → XR E g H H' c fs cls x → FK g H g' H' → d.ex c fs s' g' → w cls x σ' H'
def liftE (w : WX) (t : TE3) : TE := fun σ H Q => ∃ s g q x, SR E.K H s σ ∧ GR E g H ∧ t x s g q ∧ KQ E g H q Q ∧ KX E g H x (fun cls d H' => w cls d σ H')
def liftT (w : WX) (t : TT3) : TT := fun σ H Q => ∃ s g q x, SR E.K H s σ ∧ GR E g H ∧ t x s g q ∧ KB E g H q Q ∧ KX E g H x (fun cls d H' => w cls d σ H')
def liftA (w : WX) (t : TA3) : TA := fun σ H Q => ∃ s g q x, SR E.K H s σ ∧ GR E g H ∧ t x s g q ∧ KA E g H q Q ∧ KX E g H x (fun cls d H' => w cls d σ H')
def liftS (w : WX) (t : TS3) : TS := fun D σ H => ∃ s g d, SR E.K H s σ ∧ GR E g H ∧ t d s g ∧ KD E g H d D w
def lift1 (r : W → G → VK3 → Prop) : V → Hp → VK → Prop := fun v H Q => ∃ a g q, RV E.K H a v ∧ GR E g H ∧ r a g q ∧ KQ E g H q Q
def lift2 (r : W → W → G → VK3 → Prop) : R2 := fun v u H Q => ∃ a b g q, RV E.K H a v ∧ RV E.K H b u ∧ GR E g H ∧ r a b g q ∧ KQ E g H q Q
def liftL (r : List W → G → VK3 → Prop) : List V → Hp → VK → Prop := fun vs H Q => ∃ ws g q, RVs E.K H ws vs ∧ GR E g H ∧ r ws g q ∧ KQ E g H q Q
def liftM (r : W → List W → G → VK3 → Prop) : V → List V → Hp → VK → Prop := fun v vs H Q => ∃ a ws g q, RV E.K H a v ∧ RVs E.K H ws vs ∧ GR E g H ∧ r a ws g q ∧ KQ E g H q Q
end
section
variable {E : Env3} {g g1 : G} {H H1 : Hp}
theorem KQ.at {q : VK3} {Q : VK} (k : KQ E g H q Q) (f : FK g H g1 H1) : KQ E g1 H1 q Q := fun w g' v H' a b c d => k w g' v H' a b (f.trans c) d
theorem KA.at {q : List W → G → Prop} {Q : List V → Hp → Prop} (k : KA E g H q Q) (f : FK g H g1 H1) : KA E g1 H1 q Q := fun w g' v H' a b c d => k w g' v H' a b (f.trans c) d
theorem KB.at {q : Bool → G → Prop} {Q : Bool → Hp → Prop} (k : KB E g H q Q) (f : FK g H g1 H1) : KB E g1 H1 q Q := fun w g' H' a c d => k w g' H' a (f.trans c) d
theorem XR.at {H' : Hp} {c : Nat} {fs : List (Str × W)} {cls : Value} {d : Option Addr} (f : FK g H g1 H1) (h : XR E g1 H1 H' c fs cls d) : XR E g H H' c fs cls d := by
  obtain ⟨e, h⟩ := h
  refine ⟨e, h.imp id ?_⟩
  rintro ⟨a, l, k1, k2, k3, k4⟩
  refine ⟨a, l, k1, k2, fun u hu z => ?_, k4⟩
  obtain ⟨q1, q2⟩ := f.own a u hu z
  exact k3 u q1 q2
theorem KX.at {q : XK3} {Q : XK} (k : KX E g H q Q) (f : FK g H g1 H1) : KX E g1 H1 q Q := fun c fs g' cls d H' a b e h => k c fs g' cls d H' a (b.at f) (f.trans e) h
theorem KN.at {q : Sx → G → Prop} {Q : L2.St → Hp → Prop} (k : KN E g H q Q) (f : FK g H g1 H1) : KN E g1 H1 q Q := fun w g' v H' a b c d => k w g' v H' a b (f.trans c) d
theorem KD.at {d : Ends3} {D : Ends} {w : WX} (k : KD E g H d D w) (f : FK g H g1 H1) : KD E g1 H1 d D w :=
  ⟨k.nx.at f, k.rt.at f, k.bk.at f, k.ct.at f, fun c fs s' g' σ' cls x H' a b e i h => k.ex c fs s' g' σ' cls x H' a b (e.at f) (f.trans i) h⟩
theorem KD.xk {d : Ends3} {D : Ends} {w : WX} (k : KD E g H d D w) {s : Sx} {σ : L2.St} (r : SR E.K H s σ) (G0 : GR E g H) : KX E g H (d.xk s) (fun cls x H' => w cls x σ H') :=
  fun c fs g' cls x H' a b e h => k.ex c fs s g' σ cls x H' (r.keep (e.tk G0)) a b e h
end
section
variable {X : Cx} {E : Env3} {w : WX}
theorem peI {e : Expr} {t t' : TE} (h : PE X e t) (i : ∀ σ H Q, t' σ H Q → t σ H Q) : PE X e t' := ⟨fun pins s σ H Q I q => h.run pins s σ H Q I (i σ H Q q)⟩
theorem ptI {e : Expr} {t t' : TT} (h : PT X e t) (i : ∀ σ H Q, t' σ H Q → t σ H Q) : PT X e t' := ⟨fun pins s σ H Q I q => h.run pins s σ H Q I (i σ H Q q)⟩
theorem pwI {e : Expr} {t t' : TT} (h : PW X e t) (i : ∀ σ H Q, t' σ H Q → t σ H Q) : PW X e t' := ⟨fun w pins s σ H Q I q => h.run w pins s σ H Q I (i σ H Q q)⟩
theorem paI {e : List Expr} {t t' : TA} (h : PA X e t) (i : ∀ σ H Q, t' σ H Q → t σ H Q) : PA X e t' := ⟨fun p pins s σ H Q I q => h.run p pins s σ H Q I (i σ H Q q)⟩
theorem psI {e : Stmt} {t t' : TS} (h : PS X e t) (i : ∀ D σ H, t' D σ H → t D σ H) : PS X e t' := ⟨fun pins s σ H D I q => h.run pins s σ H D I (i D σ H q)⟩
theorem pssI {e : List Stmt} {t t' : TS} (h : PSs X e t) (i : ∀ D σ H, t' D σ H → t D σ H) : PSs X e t' := ⟨fun pins s σ H D I q => h.run pins s σ H D I (i D σ H q)⟩
theorem opI' {f : Value → Value → Sem Value} {r r' : R2} (h : OpR X f r) (i : ∀ x y H Q, r' x y H Q → r x y H Q) : OpR X f r' := fun pins s σ H x y v u Q I a b q => h pins s σ H x y v u Q I a b (i _ _ _ _ q)
def eVar (i : Nat) : TE3 := fun _ s g q => ∃ v, s[i]? = some (some v) ∧ q v g
def eC (v : W) : TE3 := fun _ _ g q => q v g
def e2 (r : W → W → G → VK3 → Prop) (ta tb : TE3) : TE3 := fun x s g q => ta x s g fun a g1 => tb x s g1 fun b g2 => r a b g2 q
def e1 (r : W → G → VK3 → Prop) (ta : TE3) : TE3 := fun x s g q => ta x s g fun a g1 => r a g1 q
def eL (r : List W → G → VK3 → Prop) (ta : TA3) : TE3 := fun x s g q => ta x s g fun a g1 => r a g1 q
def eM (r : W → List W → G → VK3 → Prop) (ty : W → G → Prop) (to : TE3) (ta : TA3) : TE3 := fun x s g q => to x s g fun a g1 => ty a g1 ∧ ta x s g1 fun ws g2 => r a ws g2 q
def aNil : TA3 := fun _ _ g q => q [] g
def aCons (te : TE3) (ta : TA3) : TA3 := fun x s g q => te x s g fun a g1 => ta x s g1 fun ws g2 => q (a :: ws) g2
theorem l_var (i : Nat) {σ : L2.St} {H : Hp} {Q : VK} (h : liftE E w (eVar i) σ H Q) : tVar i σ H Q := by
  obtain ⟨s, g, q, x, hs, hg, ⟨v, e, h⟩, kq, kx⟩ := h
  obtain ⟨u, e1, r⟩ := hs.get e
  exact ⟨u, e1, kq v g u H hg r FK.refl h⟩
theorem l_c {v : W} {u : V} (r : ∀ H, RV E.K H v u) {σ : L2.St} {H : Hp} {Q : VK} (h : liftE E w (eC v) σ H Q) : tC u σ H Q := by
  obtain ⟨s, g, q, x, hs, hg, h, kq, kx⟩ := h
  exact kq v g u H hg (r H) FK.refl h
theorem l_2 {r : W → W → G → VK3 → Prop} {ta tb : TE3} {σ : L2.St} {H : Hp} {Q : VK} (h : liftE E w (e2 r ta tb) σ H Q) : tOp (lift2 E r) (liftE E w ta) (liftE E w tb) σ H Q := by
  obtain ⟨s, g, q, x, hs, hg, h, kq, kx⟩ := h
  refine ⟨s, g, _, x, hs, hg, h, fun a g1 v H1 hg1 ra f1 h1 => ?_, kx⟩
  refine ⟨s, g1, _, x, hs.keep (f1.tk hg), hg1, h1, fun b g2 u H2 hg2 rb f2 h2 => ?_, kx.at f1⟩
  exact ⟨a, b, g2, q, ra.keep (f2.tk hg1), rb, hg2, h2, kq.at (f1.trans f2)⟩
theorem l_1 {r : W → G → VK3 → Prop} {ta : TE3} {σ : L2.St} {H : Hp} {Q : VK} (h : liftE E w (e1 r ta) σ H Q) : liftE E w ta σ H (fun v H1 => lift1 E r v H1 Q) := by
  obtain ⟨s, g, q, x, hs, hg, h, kq, kx⟩ := h
  exact ⟨s, g, _, x, hs, hg, h, fun a g1 v H1 hg1 ra f1 h1 => ⟨a, g1, q, ra, hg1, h1, kq.at f1⟩, kx⟩
theorem l_L {r : List W → G → VK3 → Prop} {ta : TA3} {σ : L2.St} {H : Hp} {Q : VK} (h : liftE E w (eL r ta) σ H Q) : liftA E w ta σ H (fun v H1 => liftL E r v H1 Q) := by
  obtain ⟨s, g, q, x, hs, hg, h, kq, kx⟩ := h
  exact ⟨s, g, _, x, hs, hg, h, fun a g1 v H1 hg1 ra f1 h1 => ⟨a, g1, q, ra, hg1, h1, kq.at f1⟩, kx⟩
theorem l_nil {σ : L2.St} {H : Hp} {Q : List V → Hp → Prop} (h : liftA E w aNil σ H Q) : tNil σ H Q := by
  obtain ⟨s, g, q, x, hs, hg, h, kq, kx⟩ := h
  exact kq [] g [] H hg RVs.nil FK.refl h
theorem l_cons {te : TE3} {ta : TA3} {σ : L2.St} {H : Hp} {Q : List V → Hp → Prop} (h : liftA E w (aCons te ta) σ H Q) : tCons (liftE E w te) (liftA E w ta) σ H Q := by
  obtain ⟨s, g, q, x, hs, hg, h, kq, kx⟩ := h
  refine ⟨s, g, _, x, hs, hg, h, fun a g1 v H1 hg1 ra f1 h1 => ?_, kx⟩
  refine ⟨s, g1, _, x, hs.keep (f1.tk hg), hg1, h1, fun ws g2 us H2 hg2 rb f2 h2 => ?_, kx.at f1⟩
  exact kq (a :: ws) g2 (v :: us) H2 hg2 (.cons (ra.keep (f2.tk hg1)) rb) (f1.trans f2) h2
end
end L3
set_option maxRecDepth 100000
set_option maxHeartbeats 4000000
namespace L3
open PySem PySem.Spec L2
def lstAt (g : G) (a : Addr) (k : List W → Prop) : Prop := match g a with
  | some (.lst xs) => k xs
  | _ => False
theorem lstAt_of {g : G} {a : Addr} {xs : List W} {k : List W → Prop} (h : g a = some (.lst xs)) : lstAt g a k = k xs := by simp only [lstAt, h]
theorem lstAt_inv {g : G} {a : Addr} {k : List W → Prop} (h : lstAt g a k) : ∃ xs, g a = some (.lst xs) ∧ k xs := by
  unfold lstAt at h; split at h
  · exact ⟨_, ‹_›, h⟩
  · exact h.elim
def seqAt (g : G) (x : W) (k : List W → Prop) : Prop := match x with
  | .ref a => lstAt g a k
  | .tup xs => k xs
  | .scr xs => k xs
  | .lv xs => k xs
  | _ => False
def newL (g : G) (xs : List W) (q : VK3) : Prop := ∀ p, g p = none → q (.ref p) (gup g p (.lst xs))
def addS (x y : W) (g : G) (q : VK3) : Prop := match x, y with
  | .int i, .int j => q (.int (i + j)) g
  | .str a, .str b => a.length + b.length ≤ sizeLine ∧ q (.str (a ++ b)) g
  | .tup xs, .tup ys => xs.length + ys.length ≤ sizeLine ∧ q (.tup (xs ++ ys)) g
  | .ref a, .ref b => lstAt g a fun xs => lstAt g b fun ys => xs.length + ys.length ≤ sizeLine ∧ newL g (xs ++ ys) q
  | .ref a, .lv ys => lstAt g a fun xs => xs.length + ys.length ≤ sizeLine ∧ newL g (xs ++ ys) q
  | .lv xs, .ref b => lstAt g b fun ys => xs.length + ys.length ≤ sizeLine ∧ newL g (xs ++ ys) q
  | .lv xs, .lv ys => xs.length + ys.length ≤ sizeLine ∧ newL g (xs ++ ys) q
  | _, _ => False
def i2S (c : Int → Int → Prop) (f : Int → Int → W) (x y : W) (g : G) (q : VK3) : Prop := match x, y with
  | .int i, .int j => c i j ∧ q (f i j) g
  | _, _ => False
def subS := i2S (fun _ _ => True) fun i j => .int (i - j)
def repS (z : Str) (n : Nat) : Str := ⟨(List.replicate n z.cps).foldl (· ++ ·) #[]⟩
def mulS (x y : W) (g : G) (q : VK3) : Prop := match x, y with
  | .str z, .int n => 0 ≤ n ∧ n ≤ 1000000 ∧ z.length * n.toNat ≤ 1000000 ∧ q (.str (repS z n.toNat)) g
  | .lv xs, .int n => 0 ≤ n ∧ n ≤ 1000000 ∧ xs.length * n.toNat ≤ 1000000 ∧ newL g (List.replicate n.toNat xs).flatten q
  | x, y => i2S IntMulOk (fun i j => .int (i * j)) x y g q
def fdivS := i2S (fun i j => j ≠ 0 ∧ Builtin.divisionGoesByPylong i j = false) fun i j => .int (i.fdiv j)
def modS := i2S (fun _ j => j ≠ 0) fun i j => .int (i.fmod j)
def powS := i2S (fun i j => 0 ≤ j ∧ (Builtin.Int.intBits i : Int) * j ≤ 2 ^ 27) fun i j => .int (i ^ j.toNat)
def negS (x : W) (g : G) (q : VK3) : Prop := match x with
  | .int i => q (.int (-i)) g
  | _ => False
section
variable {X : Cx} {E : Env3}
theorem rv_int {K : PySem.W.Frag} {H : Hp} {i : Int} : RV K H (.int i) (.int i) := by rw [RV]
theorem rv_bl {K : PySem.W.Frag} {H : Hp} {i : Bool} : RV K H (.bl i) (.bl i) := by rw [RV]
theorem rv_str {K : PySem.W.Frag} {H : Hp} {i : Str} : RV K H (.str i) (.str i) := by rw [RV]
theorem rv_ref {K : PySem.W.Frag} {H : Hp} {i : Addr} : RV K H (.ref i) (.ref i) := by rw [RV]
theorem rv_non {K : PySem.W.Frag} {H : Hp} : RV K H .non .non := by rw [RV]
theorem rv_tup {K : PySem.W.Frag} {H : Hp} {xs : List W} {p : Addr} {ys : List V} (h : H p = some (.tup ys)) (r : RVs K H xs ys) : RV K H (.tup xs) (.ref p) := by rw [RV]; exact ⟨p, ys, rfl, h, r⟩
theorem rv_tup_inv {K : PySem.W.Frag} {H : Hp} {xs : List W} {v : V} (h : RV K H (.tup xs) v) : ∃ p ys, v = .ref p ∧ H p = some (.tup ys) ∧ RVs K H xs ys := by rw [RV] at h; exact h
theorem rv_lv_fr {K : PySem.W.Frag} {H : Hp} {xs : List W} {v : V} (h : RV K H (.lv xs) v) : ∃ p ys, v = .ref p ∧ (∃ o, H p = some (.frz o (.lst ys))) ∧ RVs K H xs ys := by rw [RV] at h; exact h
theorem rv_lv_inv {K : PySem.W.Frag} {H : Hp} {xs : List W} {v : V} (h : RV K H (.lv xs) v) : ∃ p ys, v = .ref p ∧ FrL K H p ys ∧ RVs K H xs ys := by
  obtain ⟨p, ys, e, o, r⟩ := rv_lv_fr h
  exact ⟨p, ys, e, .inl o, r⟩
theorem rv_scr_inv {K : PySem.W.Frag} {H : Hp} {xs : List W} {v : V} (h : RV K H (.scr xs) v) : ∃ p ys, v = .ref p ∧ FrL K H p ys ∧ RVs K H xs ys := by rw [RV] at h; exact h
theorem new_tup {g : G} {H : Hp} {q : VK3} {Q : VK} {xs : List W} {ys : List V} {p : Addr} (hg : GR E g H) (n : H p = none) (r : RVs E.K H xs ys) (h : q (.tup xs) g) (kq : KQ E g H q Q) : Q (.ref p) (upd H p (.tup ys)) :=
  kq _ g _ _ (hg.new' n) (rv_tup upd_same (r.keep (TK.new n))) (FK.new' n) h
theorem new_lst {g : G} {H : Hp} {q : VK3} {Q : VK} {xs : List W} {ys : List V} {p : Addr} (hg : GR E g H) (n : H p = none) (r : RVs E.K H xs ys) (h : newL g xs q) (kq : KQ E g H q Q) : Q (.ref p) (upd H p (.lst ys)) :=
  kq _ _ _ _ (hg.new (o := .lst xs) n ⟨ys, upd_same, r.keep (TK.new n)⟩) rv_ref (FK.new n) (h p (hg.free n))
theorem rd_lstM {pins : List (Addr × Obj)} {σ : L2.St} {H : Hp} {s : Shared} {l : Addr} {xs : List V} (I : Inv X pins σ H s) (h : Rd H l (.lst xs)) : xs.length ≤ sizeLine ∧ ∃ (its : List Value) (n : Nat), Vals xs its ∧ xs.length = its.length ∧ s.heap.get? l = some { cls := .type "list", data := .seq its.toArray n } := by
  obtain ⟨z, its, n, r, e⟩ := h.ok I.hok
  exact ⟨z, its, n, r, r.length, e⟩
theorem op_catR : OpR X (binaryOp .Add) (fun x y H Q => ∃ l b xs zs, x = .ref l ∧ y = .ref b ∧ Rd H l (.lst xs) ∧ Rd H b (.lst zs) ∧ xs.length + zs.length ≤ sizeLine ∧ ∀ p, H p = none → Q (.ref p) (upd H p (.lst (xs ++ zs)))) := by
  intro pins s σ H x y v u Q I rx ry h
  obtain ⟨l, b, xs, zs, rfl, rfl, hH, hB, hz, q⟩ := h
  cases rx
  cases ry
  obtain ⟨z, its, n, r, hl, e⟩ := rd_lstM I hH
  obtain ⟨z2, its2, n2, r2, hl2, e2⟩ := rd_lstM I hB
  refine PySem.P.add_list e e2 ?_ (by rw [List.size_toArray, List.size_toArray]; omega)
  have ea : its.toArray ++ its2.toArray = (its ++ its2).toArray := by simp
  rw [ea]
  exact ⟨.ref _, _, I.lnew (t' := s.toks) (r.append r2) (by rw [List.length_append]; omega), rfl, q _ I.fresh⟩
theorem l_add (hK : X.K = E.K) : OpR X (binaryOp .Add) (lift2 E addS) := by
  intro pins s σ H x y v u Q I rx ry ⟨a, b, g, q, ha, hb, hg, h, kq⟩
  cases a with
  | int i =>
    cases b with
    | int j =>
      rw [RV] at ha hb; subst ha hb
      exact op_add pins s σ H _ _ v u Q I rx ry ⟨i, j, rfl, rfl, kq _ g _ H hg rv_int FK.refl h⟩
    | _ => exact h.elim
  | str i =>
    cases b with
    | str j =>
      rw [RV] at ha hb; subst ha hb
      exact op_add_str pins s σ H _ _ v u Q I rx ry ⟨i, j, rfl, rfl, h.1, kq _ g _ H hg rv_str FK.refl h.2⟩
    | _ => exact h.elim
  | tup xs =>
    cases b with
    | tup zs =>
      obtain ⟨p, ys, rfl, hs, hr⟩ := rv_tup_inv ha
      obtain ⟨p', ys', rfl, hs', hr'⟩ := rv_tup_inv hb
      refine op_catA pins s σ H _ _ v u Q I rx ry ⟨p, p', ys, ys', rfl, rfl, SqT.of hs, SqT.of hs', by rw [hr.length, hr'.length]; exact h.1, fun e => ?_, fun e1 e2 => ?_, fun _ _ t nt => ?_⟩
      · subst e
        have e0 : xs = [] := by have := hr.length; simp at this; exact List.length_eq_zero_iff.mp this.symm
        subst e0
        exact kq _ g _ H hg hb FK.refl h.2
      · subst e2
        have e0 : zs = [] := by have := hr'.length; simp at this; exact List.length_eq_zero_iff.mp this.symm
        subst e0
        exact kq _ g _ H hg (by simpa using ha) FK.refl h.2
      · exact new_tup hg nt (hr.append hr') h.2 kq
    | _ => exact h.elim
  | ref l =>
    cases b with
    | ref m =>
      rw [RV] at ha hb; subst ha hb
      obtain ⟨xs, e1, h⟩ := lstAt_inv h
      obtain ⟨zs, e2, h⟩ := lstAt_inv h
      obtain ⟨ys, f1, r1⟩ := hg _ _ e1
      obtain ⟨us, f2, r2⟩ := hg _ _ e2
      exact op_cat pins s σ H _ _ v u Q I rx ry ⟨l, m, ys, us, rfl, rfl, f1, f2, by rw [r1.length, r2.length]; exact h.1, fun p np => new_lst hg np (r1.append r2) h.2 kq⟩
    | lv zs =>
      rw [RV] at ha; subst ha
      obtain ⟨xs, e1, h⟩ := lstAt_inv h
      obtain ⟨ys, f1, r1⟩ := hg _ _ e1
      obtain ⟨p, us, rfl, ⟨o, f2⟩, r2⟩ := rv_lv_fr hb
      exact op_catR pins s σ H _ _ v u Q I rx ry ⟨l, p, ys, us, rfl, rfl, .inl f1, .inr ⟨o, f2⟩, by rw [r1.length, r2.length]; exact h.1, fun p np => new_lst hg np (r1.append r2) h.2 kq⟩
    | _ => exact h.elim
  | lv xs =>
    obtain ⟨l, ys, rfl, ⟨o, f1⟩, r1⟩ := rv_lv_fr ha
    cases b with
    | ref m =>
      rw [RV] at hb; subst hb
      obtain ⟨zs, e2, h⟩ := lstAt_inv h
      obtain ⟨us, f2, r2⟩ := hg _ _ e2
      exact op_catR pins s σ H _ _ v u Q I rx ry ⟨l, m, ys, us, rfl, rfl, .inr ⟨o, f1⟩, .inl f2, by rw [r1.length, r2.length]; exact h.1, fun p np => new_lst hg np (r1.append r2) h.2 kq⟩
    | lv zs =>
      obtain ⟨p, us, rfl, ⟨o2, f2⟩, r2⟩ := rv_lv_fr hb
      exact op_catR pins s σ H _ _ v u Q I rx ry ⟨l, p, ys, us, rfl, rfl, .inr ⟨o, f1⟩, .inr ⟨o2, f2⟩, by rw [r1.length, r2.length]; exact h.1, fun p np => new_lst hg np (r1.append r2) h.2 kq⟩
    | _ => exact h.elim
  | _ => exact h.elim
theorem l_i2 {f : Value → Value → Sem Value} {c : Int → Int → Prop} {k : Int → Int → Int} (h0 : OpR X f (rI c fun i j => .int (k i j))) : OpR X f (lift2 E (i2S c fun i j => .int (k i j))) := by
  intro pins s σ H x y v u Q I rx ry ⟨a, b, g, q, ha, hb, hg, h, kq⟩
  cases a with
  | int i =>
    cases b with
    | int j =>
      rw [RV] at ha hb; subst ha hb
      exact h0 pins s σ H _ _ v u Q I rx ry ⟨i, j, rfl, rfl, h.1, kq _ g _ H hg rv_int FK.refl h.2⟩
    | _ => exact h.elim
  | _ => exact h.elim
theorem l_sub : OpR X (binaryOp .Sub) (lift2 E subS) := l_i2 (opI' op_sub fun x y H Q ⟨i, j, a, b, _, d⟩ => ⟨i, j, a, b, d⟩)
theorem repS_0 {z : Str} : repS z 0 = Str.empty := rfl
theorem repS_1 {z : Str} : repS z 1 = z := by
  cases z
  simp [repS]
theorem repS_e {z : Str} (h : z.length = 0) (n : Nat) : repS z n = Str.empty := by
  have e : z.cps = #[] := Array.eq_empty_of_size_eq_zero h
  unfold repS
  rw [e]
  congr 1
  induction n with
  | zero => rfl
  | succ n ih =>
    rw [List.replicate_succ]
    simpa using ih
theorem rep_size {α : Type} (a : Array α) : ∀ (n : Nat) (acc : Array α), ((List.replicate n a).foldl (· ++ ·) acc).size = acc.size + n * a.size
  | 0, acc => by simp
  | n + 1, acc => by
    rw [List.replicate_succ, List.foldl_cons, rep_size a n, Array.size_append, Nat.succ_mul]; omega
theorem repS_len {z : Str} {n : Nat} : (repS z n).length = n * z.length := by
  show ((List.replicate n z.cps).foldl (· ++ ·) #[]).size = _
  rw [rep_size]
  simp
  rfl
theorem op_mul_text {x y : V} {pins : List (Addr × Obj)} {σ : L2.St} {H : Hp} {s : Shared} {v u : Value} {Q : VK} {z : Str} {n : Int} (I : L2.Inv X pins σ H s) (rx : RelV (.str z) v) (ry : RelV (.int n) u) (h0 : 0 ≤ n) (h1 : n ≤ 1000000) (h2 : z.length * n.toNat ≤ 1000000) (h : Q (.str (repS z n.toNat)) H) :
    wpAny (model X.prog X.w) X.A (binaryOp .Mult v u) (EP X pins σ Q) X.xe s := by
  obtain ⟨t, rfl⟩ := rx
  obtain ⟨t2, rfl⟩ := ry
  have p63 : (2 : Int) ^ 63 = 9223372036854775808 := by decide
  refine PySem.P.mul_str (by rw [p63, decide_eq_false (by omega), decide_eq_false (by omega)]; rfl) (fun n1 n2 => ?_) (fun n1 n2 => ?_) ?_
  · have hz : z.length ≤ 1000000 := by
      have : 1 ≤ n.toNat := by omega
      exact Nat.le_trans (Nat.le_mul_of_pos_right _ this) h2
    rw [p63]
    have : (1000000 : Int) ≤ (9223372036854775808 - 1) / n := by
      rw [Int.le_ediv_iff_mul_le (by omega)]
      have := Int.mul_le_mul_of_nonneg_left h1 (show (0 : Int) ≤ 1000000 by decide)
      omega
    omega
  · unfold Builtin.Str.tooLong
    exact decide_eq_false (by
      have : sizeLine = 16777216 := by decide
      omega)
  · by_cases c : n < 1
    · rw [if_pos c]
      have e : n.toNat = 0 := by omega
      rw [e, repS_0] at h
      exact ⟨by decide, ⟨.str _, H, I.tok _, ⟨_, rfl⟩, h⟩⟩
    · rw [if_neg c]
      by_cases c2 : (n == 1 || z.length == 0) = true
      · rw [if_pos c2]
        rcases Bool.or_eq_true _ _ ▸ c2 with c3 | c3
        · have e : n = 1 := by simpa using c3
          subst e
          rw [show (1 : Int).toNat = 1 from rfl, repS_1] at h
          exact ⟨.str z, H, I, ⟨t, rfl⟩, h⟩
        · have e : z.length = 0 := by simpa using c3
          rw [repS_e e] at h
          have ez : z = Str.empty := by
            cases z
            have e2 := Array.eq_empty_of_size_eq_zero (show _ = 0 from e)
            subst e2; rfl
          subst ez
          exact ⟨.str _, H, I, ⟨t, rfl⟩, h⟩
      · rw [if_neg c2]
        refine ⟨?_, ⟨.str _, H, I.tok _, ⟨_, rfl⟩, h⟩⟩
        have e := repS_len (z := z) (n := n.toNat)
        unfold repS at e
        rw [e, Nat.mul_comm]
        have : sizeLine = 16777216 := by decide
        omega
theorem vals_rep {xs : List V} {its : List Value} (r : Vals xs its) : ∀ n : Nat, Vals (List.replicate n xs).flatten (List.replicate n its).flatten
  | 0 => .nil
  | n + 1 => by rw [List.replicate_succ, List.replicate_succ, List.flatten_cons, List.flatten_cons]; exact r.append (vals_rep r n)
theorem rvs_rep {K : PySem.W.Frag} {H : Hp} {xs : List W} {ys : List V} (r : RVs K H xs ys) : ∀ n : Nat, RVs K H (List.replicate n xs).flatten (List.replicate n ys).flatten
  | 0 => .nil
  | n + 1 => by rw [List.replicate_succ, List.replicate_succ, List.flatten_cons, List.flatten_cons]; exact r.append (rvs_rep r n)
theorem rep_len {α : Type} (ns : List α) (k : Nat) : (List.replicate k ns).flatten.length = ns.length * k := by
  induction k with
  | zero => rfl
  | succ k ih =>
    rw [List.replicate_succ, List.flatten_cons, List.length_append, ih, Nat.mul_succ]
    omega
theorem op_mul_list {pins : List (Addr × Obj)} {σ : L2.St} {H : Hp} {s : Shared} {l : Addr} {xs : List V} {v u : Value} {Q : VK} {n : Int} (I : L2.Inv X pins σ H s) (rx : RelV (.ref l) v) (ry : RelV (.int n) u) (hH : Rd H l (.lst xs)) (h0 : 0 ≤ n) (h1 : n ≤ 1000000) (h2 : xs.length * n.toNat ≤ 1000000)
    (h : ∀ p, H p = none → Q (.ref p) (upd H p (.lst (List.replicate n.toNat xs).flatten))) :
    wpAny (model X.prog X.w) X.A (binaryOp .Mult v u) (EP X pins σ Q) X.xe s := by
  cases rx
  obtain ⟨t2, rfl⟩ := ry
  obtain ⟨z, its, k, r, hl, e⟩ := rd_lstM I hH
  have hsz : its.toArray.size * n.toNat ≤ 1000000 := by rw [List.size_toArray, ← hl]; exact h2
  have hL : sizeLine = 16777216 := by decide
  refine wpAny_binaryOp_repeat_ref (T := "list") (U := "int") (by decide) ⟨_, e, rfl⟩ (fun s' => typeIs_int s' n t2) noFill_list_mul F.fills_int_mul F.slot_int_rmul repeat_list F.slot_int_index.lookup
    (call_meets F.slot_int_rmul (typeIs_int s n t2) F.entry_int_rmul (F.args_int_rmul_2 _ _) (lm_int_rmul_list_any n t2 l its.toArray k none #[])
      ⟨e, rfl, ⟨_, e, rfl⟩, call_meets F.slot_list_mul ⟨_, e, rfl⟩ F.entry_list_mul (F.args_list_mul_2 _ _)
        (lm_list_mul_any l its.toArray k none #[] n t2 (by simp [Builtin.List.listFitsIndex]; omega) (by omega) (by rw [List.size_toArray] at hsz; simp [Builtin.List.listTooLong, sizeLine]; omega))
        ⟨e, ?_⟩⟩)
  rw [PyProof.Rows.listMul_foldl_if]
  exact ⟨.ref _, _, I.lnew (t' := s.toks) (vals_rep r n.toNat) (by rw [rep_len]; omega), rfl, h _ I.fresh⟩
theorem l_mul : OpR X (binaryOp .Mult) (lift2 E mulS) := by
  have h1 : OpR X (binaryOp .Mult) (lift2 E (i2S IntMulOk fun i j => .int (i * j))) := l_i2 (opI fun _ _ _ _ _ _ _ hc q => PyProof.Rows.mul_int q hc)
  intro pins s σ H x y v u Q I rx ry ⟨a, b, g, q, ha, hb, hg, h, kq⟩
  cases a with
  | str z =>
    cases b with
    | int n =>
      simp only [RV] at ha hb; subst ha hb
      exact op_mul_text (x := .non) (y := .non) I rx ry h.1 h.2.1 h.2.2.1 (kq _ g _ H hg rv_str FK.refl h.2.2.2)
    | _ => exact h1 pins s σ H x y v u Q I rx ry ⟨_, _, g, q, ha, hb, hg, h, kq⟩
  | lv xs =>
    cases b with
    | int n =>
      obtain ⟨l, ys, rfl, ⟨o, f1⟩, r1⟩ := rv_lv_fr ha
      simp only [RV] at hb; subst hb
      exact op_mul_list I rx ry (.inr ⟨o, f1⟩) h.1 h.2.1 (by rw [r1.length]; exact h.2.2.1) fun p np => new_lst hg np (rvs_rep r1 n.toNat) h.2.2.2 kq
    | _ => exact h1 pins s σ H x y v u Q I rx ry ⟨_, _, g, q, ha, hb, hg, h, kq⟩
  | _ => exact h1 pins s σ H x y v u Q I rx ry ⟨_, _, g, q, ha, hb, hg, h, kq⟩
theorem l_fdiv : OpR X (binaryOp .FloorDiv) (lift2 E fdivS) := l_i2 (opI fun _ _ _ _ _ _ _ hc q => PyProof.Rows.floordiv_int hc.1 q (.inl hc.2))
theorem l_mod : OpR X (binaryOp .Mod) (lift2 E modS) := l_i2 op_modN
theorem l_pow : OpR X (binaryOp .Pow) (lift2 E powS) := l_i2 (opI fun _ _ _ _ _ _ _ hc q => PyProof.Rows.pow_int hc.1 hc.2 q)
theorem l_neg : UnR X (unaryOp .USub) (lift1 E negS) := by
  intro pins s σ H x v Q I rx ⟨a, g, q, ha, hg, h, kq⟩
  cases a with
  | int i => rw [RV] at ha; subst ha; exact un_neg pins s σ H _ v Q I rx ⟨i, rfl, kq _ g _ H hg rv_int FK.refl h⟩
  | _ => exact h.elim
inductive DW (g : G) : W → PyData → Prop
  | non : DW g .non .none
  | bl (b : Bool) : DW g (.bl b) (.bool b)
  | int (i : Int) : DW g (.int i) (.int i)
  | str (x : Str) : DW g (.str x) (.str x)
  | lst {a : Addr} {xs : List W} {ds : List PyData} (h : g a = some (.lst xs)) (n : xs.length = ds.length) (k : ∀ (i : Nat) (x : W) (d : PyData), xs[i]? = some x → ds[i]? = some d → DW g x d) : DW g (.ref a) (.list ds)
  | tup {xs : List W} {ds : List PyData} (n : xs.length = ds.length) (k : ∀ (i : Nat) (x : W) (d : PyData), xs[i]? = some x → ds[i]? = some d → DW g x d) : DW g (.tup xs) (.tuple ds)
  | scr {xs : List W} {ds : List PyData} (n : xs.length = ds.length) (k : ∀ (i : Nat) (x : W) (d : PyData), xs[i]? = some x → ds[i]? = some d → DW g x d) : DW g (.scr xs) (.list ds)
  | lv {xs : List W} {ds : List PyData} (n : xs.length = ds.length) (k : ∀ (i : Nat) (x : W) (d : PyData), xs[i]? = some x → ds[i]? = some d → DW g x d) : DW g (.lv xs) (.list ds)
theorem dpAll_of {K : PySem.W.Frag} {H : Hp} : ∀ {xs : List W} {vs : List V} {ds : List PyData}, RVs K H xs vs → xs.length = ds.length →
    (∀ (i : Nat) (x : W) (d : PyData), xs[i]? = some x → ds[i]? = some d → ∀ v, RV K H x v → Dp K H v d) → DpAll K H vs ds
  | [], _, [], h, _, _ => by rw [h.nil_inv]; exact .nil
  | [], _, _ :: _, _, n, _ => by simp at n
  | _ :: _, _, [], _, n, _ => by simp at n
  | x :: xs, _, d :: ds, h, n, k => by
    obtain ⟨v, r, rfl, h1, h2⟩ := h.cons_inv
    exact .cons (k 0 x d rfl rfl v h1) (dpAll_of h2 (by simpa using n) fun i x' d' e1 e2 => k (i + 1) x' d' (by simpa using e1) (by simpa using e2))
theorem dp_of {g : G} {H : Hp} (hg : GR E g H) : ∀ {w : W} {d : PyData}, DW g w d → ∀ {v : V}, RV E.K H w v → Dp E.K H v d := by
  intro w d h
  induction h with
  | non => intro v r; rw [RV] at r; subst r; exact .non
  | bl b => intro v r; rw [RV] at r; subst r; exact .bl b
  | int b => intro v r; rw [RV] at r; subst r; exact .int b
  | str b => intro v r; rw [RV] at r; subst r; exact .str b
  | lst h n k ih =>
    intro v r; rw [RV] at r; subst r
    obtain ⟨ys, f1, r1⟩ := hg _ _ h
    exact .lst (SqL.of f1) (dpAll_of r1 n fun i x d e1 e2 v r => ih i x d e1 e2 r)
  | tup n k ih =>
    intro v r
    obtain ⟨p, ys, rfl, hs, hr⟩ := rv_tup_inv r
    exact .tup (SqT.of hs) (dpAll_of hr n fun i x d e1 e2 v r => ih i x d e1 e2 r)
  | scr n k ih =>
    intro v r
    obtain ⟨p, ys, rfl, hs, hr⟩ := rv_scr_inv r
    exact .lst hs.sq (dpAll_of hr n fun i x d e1 e2 v r => ih i x d e1 e2 r)
  | lv n k ih =>
    intro v r
    obtain ⟨p, ys, rfl, hs, hr⟩ := rv_lv_inv r
    exact .lst hs.sq (dpAll_of hr n fun i x d e1 e2 v r => ih i x d e1 e2 r)
def eqS (neg : Bool) (x y : W) (g : G) (q : VK3) : Prop := match x, y with
  | .int i, .int j => q (.bl (xor neg (decide (i = j)))) g
  | .str i, .str j => q (.bl (xor neg (decide (i = j)))) g
  | .bl i, .bl j => q (.bl (xor neg (decide (i = j)))) g
  | x, y => ∃ d e, DW g x d ∧ DW g y e ∧ d.plain = true ∧ e.plain = true ∧ d.depth ≤ 64 ∧ q (.bl (xor neg (PyData.eqv d e))) g
theorem eqS_data {neg : Bool} {x y : W} {g : G} {q : VK3} (h : eqS neg x y g q) : (∃ i j, x = .int i ∧ y = .int j ∧ q (.bl (xor neg (decide (i = j)))) g) ∨ (∃ i j, x = .str i ∧ y = .str j ∧ q (.bl (xor neg (decide (i = j)))) g) ∨
    (∃ i j, x = .bl i ∧ y = .bl j ∧ q (.bl (xor neg (decide (i = j)))) g) ∨ ∃ d e, DW g x d ∧ DW g y e ∧ d.plain = true ∧ e.plain = true ∧ d.depth ≤ 64 ∧ q (.bl (xor neg (PyData.eqv d e))) g := by
  unfold eqS at h
  split at h
  · exact .inl ⟨_, _, rfl, rfl, h⟩
  · exact .inr (.inl ⟨_, _, rfl, rfl, h⟩)
  · exact .inr (.inr (.inl ⟨_, _, rfl, rfl, h⟩))
  · exact .inr (.inr (.inr h))
theorem plain_room {A : Around} {d e : PyData} (hu : A.units + 64 < cLine) (h : d.depth ≤ 64) : A.units + min d.depth e.depth < cLine := by have := Nat.min_le_left d.depth e.depth; omega
theorem dec_vi {i j : Int} : decide (V.int i = V.int j) = decide (i = j) := by simp
theorem dec_vs {i j : Str} : decide (V.str i = V.str j) = decide (i = j) := by simp
theorem dec_vb {i j : Bool} : decide (V.bl i = V.bl j) = decide (i = j) := by simp
theorem l_eq (hK : X.K = E.K) (hu : X.A.units + 64 < cLine) : OpR X (compareOp .Eq) (lift2 E (eqS false)) := by
  intro pins s σ H x y v u Q I rx ry ⟨a, b, g, q, ha, hb, hg, h, kq⟩
  rcases eqS_data h with ⟨i, j, rfl, rfl, h2⟩ | ⟨i, j, rfl, rfl, h2⟩ | ⟨i, j, rfl, rfl, h2⟩ | ⟨d, e, d1, d2, s1, s2, h3, h2⟩
  · rw [RV] at ha hb; subst ha hb
    exact op_eq pins s σ H _ _ v u Q I rx ry ⟨rfl, kq _ g _ H hg rv_bl FK.refl (by simpa [dec_vi] using h2)⟩
  · rw [RV] at ha hb; subst ha hb
    exact op_eq pins s σ H _ _ v u Q I rx ry ⟨rfl, kq _ g _ H hg rv_bl FK.refl (by simpa [dec_vs] using h2)⟩
  · rw [RV] at ha hb; subst ha hb
    exact op_eq pins s σ H _ _ v u Q I rx ry ⟨rfl, kq _ g _ H hg rv_bl FK.refl (by simpa [dec_vb] using h2)⟩
  · obtain ⟨as, r1⟩ := Dp.reads I d _ v (by rw [hK]; exact dp_of hg d1 ha) rx
    obtain ⟨bs, r2⟩ := Dp.reads I e _ u (by rw [hK]; exact dp_of hg d2 hb) ry
    exact PySem.SeqAt.eq_plain r1 r2 s1 s2 (plain_room hu h3) ⟨.bl _, H, I, rfl, kq _ g _ H hg rv_bl FK.refl (by simpa using h2)⟩
theorem l_ne (hK : X.K = E.K) (hu : X.A.units + 64 < cLine) : OpR X (compareOp .NotEq) (lift2 E (eqS true)) := by
  intro pins s σ H x y v u Q I rx ry ⟨a, b, g, q, ha, hb, hg, h, kq⟩
  rcases eqS_data h with ⟨i, j, rfl, rfl, h2⟩ | ⟨i, j, rfl, rfl, h2⟩ | ⟨i, j, rfl, rfl, h2⟩ | ⟨d, e, d1, d2, s1, s2, h3, h2⟩
  · rw [RV] at ha hb; subst ha hb
    exact op_ne pins s σ H _ _ v u Q I rx ry ⟨rfl, kq _ g _ H hg rv_bl FK.refl (by simpa [dec_vi] using h2)⟩
  · rw [RV] at ha hb; subst ha hb
    exact op_ne pins s σ H _ _ v u Q I rx ry ⟨rfl, kq _ g _ H hg rv_bl FK.refl (by simpa [dec_vs] using h2)⟩
  · rw [RV] at ha hb; subst ha hb
    exact op_ne pins s σ H _ _ v u Q I rx ry ⟨rfl, kq _ g _ H hg rv_bl FK.refl (by simpa [dec_vb] using h2)⟩
  · obtain ⟨as, r1⟩ := Dp.reads I d _ v (by rw [hK]; exact dp_of hg d1 ha) rx
    obtain ⟨bs, r2⟩ := Dp.reads I e _ u (by rw [hK]; exact dp_of hg d2 hb) ry
    exact PySem.SeqAt.ne_plain r1 r2 s1 s2 (plain_room hu h3) ⟨.bl _, H, I, rfl, kq _ g _ H hg rv_bl FK.refl (by simpa using h2)⟩
def ordS (fi : Int → Int → Bool) (fs : Str → Str → Bool) (fd : PyData → PyData → Bool) (x y : W) (g : G) (q : VK3) : Prop := match x, y with
  | .int i, .int j => q (.bl (fi i j)) g
  | .str i, .str j => q (.bl (fs i j)) g
  | x, y => ∃ d e, DW g x d ∧ DW g y e ∧ PySem.W.alike d e = true ∧ d ≠ .none ∧ d.depth ≤ 64 ∧ q (.bl (fd d e)) g
theorem l_ord {op : CmpOp} {fi : Int → Int → Bool} {fs : Str → Str → Bool} {fd : PyData → PyData → Bool} (hK : X.K = E.K) (h1 : OpR X (compareOp op) (rI0 fun i j => .bl (fi i j)))
    (h2 : OpR X (compareOp op) (fun x y H Q => ∃ i j, x = .str i ∧ y = .str j ∧ Q (.bl (fs i j)) H))
    (h3 : OpR X (compareOp op) (fun x y H Q => ∃ d e, Dp X.K H x d ∧ Dp X.K H y e ∧ PySem.W.alike d e = true ∧ d ≠ .none ∧ d.depth ≤ 64 ∧ Q (.bl (fd d e)) H)) : OpR X (compareOp op) (lift2 E (ordS fi fs fd)) := by
  intro pins s σ H x y v u Q I rx ry ⟨a, b, g, q, ha, hb, hg, h, kq⟩
  unfold ordS at h
  split at h
  · rw [RV] at ha hb; subst ha hb; exact h1 pins s σ H _ _ v u Q I rx ry ⟨_, _, rfl, rfl, kq _ g _ H hg rv_bl FK.refl h⟩
  · rw [RV] at ha hb; subst ha hb; exact h2 pins s σ H _ _ v u Q I rx ry ⟨_, _, rfl, rfl, kq _ g _ H hg rv_bl FK.refl h⟩
  · obtain ⟨d, e, d1, d2, k1, k2, k3, h⟩ := h
    exact h3 pins s σ H _ _ v u Q I rx ry ⟨d, e, by rw [hK]; exact dp_of hg d1 ha, by rw [hK]; exact dp_of hg d2 hb, k1, k2, k3, kq _ g _ H hg rv_bl FK.refl h⟩
def ltS := ordS (fun i j => decide (i < j)) (fun i j => decide (i.cps.toList < j.cps.toList)) fun d e => PySem.W.dataLt d e
def leS := ordS (fun i j => decide (i ≤ j)) (fun i j => !decide (j.cps.toList < i.cps.toList)) fun d e => !PySem.W.dataLt e d
def gtS := ordS (fun i j => decide (j < i)) (fun i j => decide (j.cps.toList < i.cps.toList)) fun d e => PySem.W.dataLt e d
def geS := ordS (fun i j => decide (j ≤ i)) (fun i j => !decide (i.cps.toList < j.cps.toList)) fun d e => !PySem.W.dataLt d e
theorem l_lt (hK : X.K = E.K) (hu : X.A.units + 64 < cLine) : OpR X (compareOp .Lt) (lift2 E ltS) := l_ord hK op_lt op_lt_str fun pins s σ H x y v u Q I rx ry ⟨d, e, a, b, k1, k2, k3, h⟩ => by
  obtain ⟨as, r1⟩ := Dp.reads I d _ v a rx; obtain ⟨bs, r2⟩ := Dp.reads I e _ u b ry
  exact PySem.W.lt_data r1 r2 k1 k2 (plain_room hu k3) ⟨.bl _, H, I, rfl, h⟩
theorem l_le (hK : X.K = E.K) (hu : X.A.units + 64 < cLine) : OpR X (compareOp .LtE) (lift2 E leS) := l_ord hK op_le op_le_str fun pins s σ H x y v u Q I rx ry ⟨d, e, a, b, k1, k2, k3, h⟩ => by
  obtain ⟨as, r1⟩ := Dp.reads I d _ v a rx; obtain ⟨bs, r2⟩ := Dp.reads I e _ u b ry
  exact PySem.W.le_data r1 r2 k1 k2 (plain_room hu k3) ⟨.bl _, H, I, rfl, h⟩
theorem l_gt (hK : X.K = E.K) (hu : X.A.units + 64 < cLine) : OpR X (compareOp .Gt) (lift2 E gtS) := l_ord hK op_gt op_gt_str fun pins s σ H x y v u Q I rx ry ⟨d, e, a, b, k1, k2, k3, h⟩ => by
  obtain ⟨as, r1⟩ := Dp.reads I d _ v a rx; obtain ⟨bs, r2⟩ := Dp.reads I e _ u b ry
  exact PySem.W.gt_data r1 r2 k1 k2 (plain_room hu k3) ⟨.bl _, H, I, rfl, h⟩
theorem l_ge (hK : X.K = E.K) (hu : X.A.units + 64 < cLine) : OpR X (compareOp .GtE) (lift2 E geS) := l_ord hK op_ge op_ge_str fun pins s σ H x y v u Q I rx ry ⟨d, e, a, b, k1, k2, k3, h⟩ => by
  obtain ⟨as, r1⟩ := Dp.reads I d _ v a rx; obtain ⟨bs, r2⟩ := Dp.reads I e _ u b ry
  exact PySem.W.ge_data r1 r2 k1 k2 (plain_room hu k3) ⟨.bl _, H, I, rfl, h⟩
def isS (neg : Bool) (x y : W) (g : G) (q : VK3) : Prop := match x, y with
  | .non, .non => q (.bl (!neg)) g
  | _, .non => q (.bl neg) g
  | .bl a, .bl b => q (.bl (xor neg (decide (a = b)))) g
  | _, _ => False
theorem isS_non {neg : Bool} {x : W} {g : G} {q : VK3} {H : Hp} {v : V} (r : RV E.K H x v) (h : isS neg x .non g q) : q (.bl (xor neg (decide (v = .non)))) g := by
  cases x with
  | non => rw [RV] at r; subst r; simpa [isS] using h
  | tup xs => obtain ⟨p, ys, rfl, _⟩ := rv_tup_inv r; simpa [isS] using h
  | scr xs => obtain ⟨p, ys, rfl, _⟩ := rv_scr_inv r; simpa [isS] using h
  | lv xs => obtain ⟨p, ys, rfl, _⟩ := rv_lv_inv r; simpa [isS] using h
  | _ => rw [RV] at r; subst r; simpa [isS] using h
theorem l_is : OpR X (compareOp .Is) (lift2 E (isS false)) := by
  intro pins s σ H x y v u Q I rx ry ⟨a, b, g, q, ha, hb, hg, h, kq⟩
  cases b with
  | non =>
    have h' := isS_non ha h
    rw [RV] at hb; subst hb
    exact op_isN pins s σ H _ _ v u Q I rx ry ⟨rfl, kq _ g _ H hg rv_bl FK.refl (by simpa using h')⟩
  | bl j =>
    cases a with
    | bl i => rw [RV] at ha hb; subst ha hb; exact op_is_bl pins s σ H _ _ v u Q I rx ry ⟨i, j, rfl, rfl, kq _ g _ H hg rv_bl FK.refl (by simpa [isS] using h)⟩
    | _ => exact h.elim
  | _ => cases a <;> exact h.elim
theorem l_isnot : OpR X (compareOp .IsNot) (lift2 E (isS true)) := by
  intro pins s σ H x y v u Q I rx ry ⟨a, b, g, q, ha, hb, hg, h, kq⟩
  cases b with
  | non =>
    have h' := isS_non ha h
    rw [RV] at hb; subst hb
    exact op_notN pins s σ H _ _ v u Q I rx ry ⟨rfl, kq _ g _ H hg rv_bl FK.refl (by simpa using h')⟩
  | bl j =>
    cases a with
    | bl i => rw [RV] at ha hb; subst ha hb; exact op_isnot_bl pins s σ H _ _ v u Q I rx ry ⟨i, j, rfl, rfl, kq _ g _ H hg rv_bl FK.refl (by simpa [isS] using h)⟩
    | _ => exact h.elim
  | _ => cases a <;> exact h.elim
end
end L3
set_option maxRecDepth 100000
set_option maxHeartbeats 4000000
namespace L3
open PySem PySem.Spec L2
section
variable {κ α : Type} [DecidableEq κ]
def dGet (kvs : List (κ × α)) (k : κ) : Option α := (kvs.find? fun p => decide (p.1 = k)).map (·.2)
def dPut (kvs : List (κ × α)) (k : κ) (v : α) : List (κ × α) :=
  if (kvs.any fun p => decide (p.1 = k)) = true then kvs.map (fun p => if p.1 = k then (p.1, v) else p) else kvs ++ [(k, v)]
def dDel (kvs : List (κ × α)) (k : κ) : List (κ × α) := kvs.filter fun p => decide (p.1 ≠ k)
end
structure DRel {κ : Type} (K : PySem.W.Frag) (H : Hp) (kvs : List (κ × W)) (l : List (κ × V)) : Prop where
  keys : kvs.map (·.1) = l.map (·.1)
  vals : RVs K H (kvs.map (·.2)) (l.map (·.2))
section
variable {κ : Type} [DecidableEq κ] {K : PySem.W.Frag} {H H' : Hp}
theorem DRel.nil : DRel K H ([] : List (κ × W)) [] := ⟨rfl, .nil⟩
theorem DRel.nil_inv {l : List (κ × V)} (h : DRel K H [] l) : l = [] := by
  have := h.keys; simp at this; exact this
theorem DRel.cons {p : κ × W} {q : κ × V} {kvs : List (κ × W)} {l : List (κ × V)} (e : p.1 = q.1) (r : RV K H p.2 q.2) (h : DRel K H kvs l) : DRel K H (p :: kvs) (q :: l) :=
  ⟨by simp [e, h.keys], .cons r h.vals⟩
theorem DRel.cons_inv {p : κ × W} {kvs : List (κ × W)} {l : List (κ × V)} (h : DRel K H (p :: kvs) l) : ∃ q r, l = q :: r ∧ p.1 = q.1 ∧ RV K H p.2 q.2 ∧ DRel K H kvs r := by
  obtain ⟨h1, h2⟩ := h
  cases l with
  | nil => simp at h1
  | cons q r =>
    simp at h1
    obtain ⟨v, r', e, h3, h4⟩ := RVs.cons_inv h2
    simp at e
    obtain ⟨rfl, rfl⟩ := e
    exact ⟨q, r, rfl, h1.1, h3, h1.2, h4⟩
theorem DRel.keep (t : TK H H') {kvs : List (κ × W)} {l : List (κ × V)} (h : DRel K H kvs l) : DRel K H' kvs l := ⟨h.keys, h.vals.keep t⟩
theorem DRel.length {kvs : List (κ × W)} {l : List (κ × V)} (h : DRel K H kvs l) : l.length = kvs.length := by simpa using h.vals.length
theorem DRel.append {k1 k2 : List (κ × W)} {l1 l2 : List (κ × V)} (h : DRel K H k1 l1) (h' : DRel K H k2 l2) : DRel K H (k1 ++ k2) (l1 ++ l2) :=
  ⟨by simp [h.keys, h'.keys], by simpa using h.vals.append h'.vals⟩
theorem DRel.get : ∀ {kvs : List (κ × W)} {l : List (κ × V)} (k : κ), DRel K H kvs l → (dGet kvs k = none ∧ valV l k = none) ∨ ∃ w v, dGet kvs k = some w ∧ valV l k = some v ∧ RV K H w v
  | [], _, k, h => by rw [h.nil_inv]; exact .inl ⟨rfl, rfl⟩
  | p :: kvs, _, k, h => by
    obtain ⟨q, r, rfl, e, rv, h⟩ := h.cons_inv
    by_cases z : p.1 = k
    · exact .inr ⟨p.2, q.2, by simp [dGet, z], by simp [valV, ← e, z], rv⟩
    · have z' : ¬ q.1 = k := by rw [← e]; exact z
      have e1 : dGet (p :: kvs) k = dGet kvs k := by simp [dGet, List.find?_cons, z]
      have e2 : valV (q :: r) k = valV r k := by simp [valV, List.find?_cons, z']
      rw [e1, e2]
      exact DRel.get k h
theorem DRel.any {kvs : List (κ × W)} {l : List (κ × V)} (h : DRel K H kvs l) (k : κ) : (kvs.any fun p => decide (p.1 = k)) = (l.any fun p => decide (p.1 = k)) := by
  have e1 : (kvs.any fun p => decide (p.1 = k)) = (kvs.map (·.1)).any fun a => decide (a = k) := by simp [List.any_map, Function.comp_def]
  have e2 : (l.any fun p => decide (p.1 = k)) = (l.map (·.1)).any fun a => decide (a = k) := by simp [List.any_map, Function.comp_def]
  rw [e1, e2, h.keys]
theorem DRel.mapPut {w : W} {v : V} (r : RV K H w v) (k : κ) : ∀ {kvs : List (κ × W)} {l : List (κ × V)}, DRel K H kvs l → DRel K H (kvs.map fun p => if p.1 = k then (p.1, w) else p) (l.map fun p => if p.1 = k then (p.1, v) else p)
  | [], _, h => by rw [h.nil_inv]; exact .nil
  | p :: kvs, _, h => by
    obtain ⟨q, r', rfl, e, rv, h⟩ := h.cons_inv
    have ih := DRel.mapPut r k h
    by_cases z : p.1 = k
    · have z' : q.1 = k := by rw [← e]; exact z
      simpa [z, z'] using DRel.cons (p := (k, w)) (q := (k, v)) rfl r ih
    · have z' : ¬ q.1 = k := by rw [← e]; exact z
      simpa [z, z'] using DRel.cons e rv ih
theorem DRel.put {w : W} {v : V} {kvs : List (κ × W)} {l : List (κ × V)} (h : DRel K H kvs l) (k : κ) (r : RV K H w v) : DRel K H (dPut kvs k w) (putK l k v) := by
  unfold dPut putK
  rw [h.any k]
  split
  · exact DRel.mapPut r k h
  · exact h.append (.cons rfl r .nil)
theorem DRel.del (k : κ) : ∀ {kvs : List (κ × W)} {l : List (κ × V)}, DRel K H kvs l → DRel K H (dDel kvs k) (dropK l k)
  | [], _, h => by rw [h.nil_inv]; exact .nil
  | p :: kvs, _, h => by
    obtain ⟨q, r', rfl, e, rv, h⟩ := h.cons_inv
    have ih := DRel.del k h
    by_cases z : p.1 = k
    · have z' : q.1 = k := by rw [← e]; exact z
      simpa [dDel, dropK, z, z'] using ih
    · have z' : ¬ q.1 = k := by rw [← e]; exact z
      simpa [dDel, dropK, z, z'] using DRel.cons e rv ih
end
def toKey : W → Option Key
  | .int i => some (.inl i)
  | .str x => some (.inr x)
  | _ => none
def toKeys : List W → Option (List Key)
  | [] => some []
  | x :: xs => match toKey x, toKeys xs with
    | some k, some ks => some (k :: ks)
    | _, _ => none
theorem rv_key {K : PySem.W.Frag} {H : Hp} {w : W} {k : Key} {v : V} (e : toKey w = some k) (r : RV K H w v) : v = kV k := by
  cases w <;> simp [toKey] at e <;> subst e <;> rw [RV] at r <;> exact r
theorem rv_keys {K : PySem.W.Frag} {H : Hp} : ∀ {ws : List W} {ks : List Key} {vs : List V}, toKeys ws = some ks → RVs K H ws vs → vs = ks.map kV
  | [], ks, _, e, r => by simp [toKeys] at e; subst e; exact r.nil_inv
  | w :: ws, ks, _, e, r => by
    obtain ⟨v, r', rfl, h1, h2⟩ := r.cons_inv
    simp only [toKeys] at e
    split at e
    · rename_i k ks' e1 e2
      simp at e; subst e
      rw [rv_key e1 h1, rv_keys e2 h2]; rfl
    · cases e
def dicAt (g : G) (a : Addr) (y : W) (k : Option W → Prop) : Prop := match g a, y with
  | some (.dic _ kvs), .tup _ => False
  | some (.dic _ kvs), y => match toKey y with
    | some c => k (dGet kvs c)
    | none => False
  | some (.dit _ kvs), .tup ys => match toKeys ys with
    | some c => k (dGet kvs c)
    | none => False
  | _, _ => False
section
variable {E : Env3}
theorem DicAt.rd {H : Hp} {a : Addr} {lk : Bool} {u : HO} (h : DicAt H a lk u) : Rd H a u := by
  cases lk with
  | false => exact .inl h
  | true => obtain ⟨od, e⟩ := h; exact .inr ⟨od, e⟩
theorem dicAt_get {g : G} {H : Hp} {a : Addr} {y : W} {k : Option W → Prop} {v : V} (hg : GR E g H) (r : RV E.K H y v) (h : dicAt g a y k) : ∃ o o', k o ∧ DGet H a v o' ∧ ((o = none ∧ o' = none) ∨ ∃ w u, o = some w ∧ o' = some u ∧ RV E.K H w u) := by
  unfold dicAt at h
  split at h
  · exact h.elim
  · rename_i y' lk kvs eg ny
    obtain ⟨l, hd, e1, e2⟩ := hg _ _ eg
    have hl : DRel E.K H kvs l := ⟨e1, e2⟩
    split at h
    · rename_i c ec
      have ev := rv_key ec r
      subst ev
      refine ⟨dGet kvs c, valV l c, h, .inl ⟨l, c, hd.rd, rfl, rfl⟩, ?_⟩
      rcases hl.get c with ⟨q1, q2⟩ | ⟨w, u, q1, q2, q3⟩
      · exact .inl ⟨q1, q2⟩
      · exact .inr ⟨w, u, q1, q2, q3⟩
    · exact h.elim
  · rename_i lk kvs ys eg
    obtain ⟨l, hd, e1, e2⟩ := hg _ _ eg
    have hl : DRel E.K H kvs l := ⟨e1, e2⟩
    split at h
    · rename_i c ec
      obtain ⟨p, zs, rfl, ht, hr⟩ := rv_tup_inv r
      have ev := rv_keys ec hr
      subst ev
      refine ⟨dGet kvs c, valV l c, h, .inr ⟨l, c, p, hd.rd, rfl, ht, rfl⟩, ?_⟩
      rcases hl.get c with ⟨q1, q2⟩ | ⟨w, u, q1, q2, q3⟩
      · exact .inl ⟨q1, q2⟩
      · exact .inr ⟨w, u, q1, q2, q3⟩
    · exact h.elim
  · exact h.elim
end
def ixS (x y : W) (g : G) (q : VK3) : Prop := match x, y with
  | .ref a, y => match g a with
    | some (.lst xs) => match y with
      | .int i => ∃ v, atI xs i = some v ∧ q v g
      | _ => False
    | _ => dicAt g a y fun o => ∃ v, o = some v ∧ q v g
  | .tup xs, .int i => ∃ v, atI xs i = some v ∧ q v g
  | .scr xs, .int i => ∃ v, atI xs i = some v ∧ q v g
  | .lv xs, .int i => ∃ v, atI xs i = some v ∧ q v g
  | .str z, .int i => z.length ≤ sizeLine ∧ ∃ c, atI z.cps.toList i = some c ∧ q (.str ⟨#[c]⟩) g
  | _, _ => False
theorem atI_rel {K : PySem.W.Frag} {H : Hp} {xs : List W} {ys : List V} {i : Int} {w : W} (r : RVs K H xs ys) (e : atI xs i = some w) : ∃ v, atI ys i = some v ∧ RV K H w v := by
  unfold atI at e ⊢
  rw [r.length]
  cases h : ixN xs.length i with
  | none => rw [h] at e; cases e
  | some j => rw [h] at e; exact r.get e
section
variable {X : Cx} {E : Env3}
theorem ix_dict (hu : X.A.units + 1 < cLine) : IxR X (fun x y H Q => ∃ a v, x = .ref a ∧ DGet H a y (some v) ∧ Q v H) := by
  intro value slice pins s σ H x y v u Q I rx ry h hs
  obtain ⟨a, w, rfl, d, q⟩ := h
  cases rx
  exact PyProof.Rows.tail_any (dict_typeIs I d) PySem.F.slot_dict_getitem.lookup (d_getItem hu I d ry fun w' s' I' r' => ⟨w, H, I', r', q⟩) hs
theorem l_ix (hK : X.K = E.K) (hu : X.A.units + 1 < cLine) : IxR X (lift2 E ixS) := by
  intro value slice pins s σ H x y v u Q I rx ry ⟨a, b, g, q, ha, hb, hg, h, kq⟩ hs
  cases a with
  | ref p =>
    rw [RV] at ha; subst ha
    simp only [ixS] at h
    split at h
    · rename_i xs eg
      cases b with
      | int i =>
        rw [RV] at hb; subst hb
        obtain ⟨w, e, h⟩ := h
        obtain ⟨ys, f1, r1⟩ := hg _ _ eg
        obtain ⟨z, e', rz⟩ := atI_rel r1 e
        exact ix_list value slice pins s σ H _ _ v u Q I rx ry ⟨p, ys, i, z, rfl, rfl, SqL.of f1, e', kq _ g _ H hg rz FK.refl h⟩ hs
      | _ => exact h.elim
    · obtain ⟨o, o', ⟨w, rfl, h⟩, d, r⟩ := dicAt_get hg hb h
      rcases r with ⟨z, _⟩ | ⟨w', z, e1, rfl, rz⟩
      · cases z
      · cases e1
        exact ix_dict hu value slice pins s σ H _ _ v u Q I rx ry ⟨p, z, rfl, d, kq _ g _ H hg rz FK.refl h⟩ hs
  | tup xs =>
    cases b with
    | int i =>
      rw [RV] at hb; subst hb
      obtain ⟨p, ys, rfl, ht, hr⟩ := rv_tup_inv ha
      obtain ⟨w, e, h⟩ := h
      obtain ⟨z, e', rz⟩ := atI_rel hr e
      exact ix_tup value slice pins s σ H _ _ v u Q I rx ry ⟨p, ys, i, z, rfl, rfl, SqT.of ht, e', kq _ g _ H hg rz FK.refl h⟩ hs
    | _ => exact h.elim
  | scr xs =>
    cases b with
    | int i =>
      rw [RV] at hb; subst hb
      obtain ⟨p, ys, rfl, ht, hr⟩ := rv_scr_inv ha
      obtain ⟨w, e, h⟩ := h
      obtain ⟨z, e', rz⟩ := atI_rel hr e
      exact ix_list value slice pins s σ H _ _ v u Q I rx ry ⟨p, ys, i, z, rfl, rfl, by rw [hK]; exact ht.sq, e', kq _ g _ H hg rz FK.refl h⟩ hs
    | _ => exact h.elim
  | lv xs =>
    cases b with
    | int i =>
      rw [RV] at hb; subst hb
      obtain ⟨p, ys, rfl, ht, hr⟩ := rv_lv_inv ha
      obtain ⟨w, e, h⟩ := h
      obtain ⟨z, e', rz⟩ := atI_rel hr e
      exact ix_list value slice pins s σ H _ _ v u Q I rx ry ⟨p, ys, i, z, rfl, rfl, by rw [hK]; exact ht.sq, e', kq _ g _ H hg rz FK.refl h⟩ hs
    | _ => exact h.elim
  | str z =>
    cases b with
    | int i =>
      simp only [RV] at ha hb; subst ha hb
      obtain ⟨hz, c, e, h⟩ := h
      exact ix_str value slice pins s σ H _ _ v u Q I rx ry ⟨z, i, c, rfl, rfl, hz, e, kq _ g _ H hg rv_str FK.refl h⟩ hs
    | _ => exact h.elim
  | _ => cases b <;> exact h.elim
def cutW (xs : List W) (lo hi : Option Int) : List W := (xs.drop (HT.sIx xs.length 0 lo)).take (HT.sIx xs.length xs.length hi - HT.sIx xs.length 0 lo)
theorem cutW_rel {K : PySem.W.Frag} {H : Hp} {xs : List W} {ys : List V} {lo hi : Option Int} (r : RVs K H xs ys) : RVs K H (cutW xs lo hi) (cutV ys lo hi) := by
  unfold cutW cutV
  rw [r.length]
  exact (r.drop _).take _
def slS (x : W) (lo hi : Option Int) (g : G) (q : VK3) : Prop := match x with
  | .ref a => lstAt g a fun xs => newL g (cutW xs lo hi) q
  | .scr xs => newL g (cutW xs lo hi) q
  | .lv xs => newL g (cutW xs lo hi) q
  | .tup xs => q (.tup (cutW xs lo hi)) g
  | .str z => z.length ≤ sizeLine ∧ q (.str (cutS z lo hi)) g
  | _ => False
def liftSl (r : W → Option Int → Option Int → G → VK3 → Prop) : V → Option Int → Option Int → Hp → VK → Prop := fun v lo hi H Q => ∃ a g q, RV E.K H a v ∧ GR E g H ∧ r a lo hi g q ∧ KQ E g H q Q
theorem cutW_all {xs : List W} {lo hi : Option Int} (h : HT.sIx xs.length 0 lo = 0 ∧ HT.sIx xs.length xs.length hi = xs.length) : cutW xs lo hi = xs := by
  unfold cutW; rw [h.1, h.2]; simp
theorem l_sl (hK : X.K = E.K) : SlR X (liftSl (E := E) slS) := by
  intro pins s σ H x v vl vu lo hi sl Q I rx hs pl pu ⟨a, g, q, ha, hg, h, kq⟩
  cases a with
  | ref p =>
    rw [RV] at ha; subst ha
    obtain ⟨xs, e1, h⟩ := lstAt_inv h
    obtain ⟨ys, f1, r1⟩ := hg _ _ e1
    exact sl_list pins s σ H _ v vl vu lo hi sl Q I rx hs pl pu ⟨p, ys, rfl, SqL.of f1, fun t nt => new_lst hg nt (cutW_rel r1) h kq⟩
  | scr xs =>
    obtain ⟨p, ys, rfl, ht, hr⟩ := rv_scr_inv ha
    exact sl_list pins s σ H _ v vl vu lo hi sl Q I rx hs pl pu ⟨p, ys, rfl, by rw [hK]; exact ht.sq, fun t nt => new_lst hg nt (cutW_rel hr) h kq⟩
  | lv xs =>
    obtain ⟨p, ys, rfl, ht, hr⟩ := rv_lv_inv ha
    exact sl_list pins s σ H _ v vl vu lo hi sl Q I rx hs pl pu ⟨p, ys, rfl, by rw [hK]; exact ht.sq, fun t nt => new_lst hg nt (cutW_rel hr) h kq⟩
  | tup xs =>
    obtain ⟨p, ys, rfl, ht, hr⟩ := rv_tup_inv ha
    refine sl_tupA pins s σ H _ v vl vu lo hi sl Q I rx hs pl pu ⟨p, ys, rfl, SqT.of ht, fun z => ?_, fun z t nt => new_tup hg nt (cutW_rel hr) h kq⟩
    rw [hr.length] at z
    have e := cutW_all z
    have h' : q (.tup (cutW xs lo hi)) g := h
    rw [e] at h'
    exact kq _ g _ H hg ha FK.refl h'
  | str z =>
    rw [RV] at ha; subst ha
    exact sl_str pins s σ H _ v vl vu lo hi sl Q I rx hs pl pu ⟨z, rfl, h.1, kq _ g _ H hg rv_str FK.refl h.2⟩
  | _ => exact h.elim
def putS (x y v : W) (g : G) (k : G → Prop) : Prop := match x with
  | .ref a => match g a with
    | some (.lst xs) => match y with
      | .int i => ∃ j, ixN xs.length i = some j ∧ k (gup g a (.lst (xs.set j v)))
      | _ => False
    | some (.dic false kvs) => match toKey y with
      | some c => kvs.length < sizeLine ∧ k (gup g a (.dic false (dPut kvs c v)))
      | none => False
    | some (.dit false kvs) => match y with
      | .tup ys => match toKeys ys with
        | some c => kvs.length < sizeLine ∧ k (gup g a (.dit false (dPut kvs c v)))
        | none => False
      | _ => False
    | _ => False
  | _ => False
def liftPut (r : W → W → W → G → (G → Prop) → Prop) : TSet := fun x y z H Q => ∃ a b c g q, RV E.K H a x ∧ RV E.K H b y ∧ RV E.K H c z ∧ GR E g H ∧ r a b c g q ∧ ∀ g' H', GR E g' H' → FK g H g' H' → q g' → Q H'
theorem l_put (hu : X.A.units + 1 < cLine) : PSet X (liftPut (E := E) putS) := by
  intro pins s σ H o i v ov iv u Q I ro ri rv ⟨a, b, c, g, q, ha, hb, hc, hg, h, kq⟩
  cases a with
  | ref p =>
    rw [RV] at ha; subst ha
    simp only [putS] at h
    split at h
    · rename_i xs eg
      cases b with
      | int k =>
        rw [RV] at hb; subst hb
        obtain ⟨j, e, h⟩ := h
        obtain ⟨ys, f1, r1⟩ := hg _ _ eg
        refine set_list pins s σ H _ _ v ov iv u Q I ro ri rv ⟨p, ys, k, j, rfl, rfl, f1, by rw [r1.length]; exact e, ?_⟩
        have t : TK H (upd H p (.lst (ys.set j v))) := hg.tk eg
        exact kq _ _ (hg.wr (o' := .lst (xs.set j c)) eg ⟨_, upd_same, (r1.keep t).set (hc.keep t) j⟩) (FK.wr eg f1 (fun _ _ z => nomatch z)) h
      | _ => exact h.elim
    · rename_i kvs eg
      split at h
      · rename_i k ek
        have ev := rv_key ek hb
        subst ev
        obtain ⟨l, hd, e1, e2⟩ := hg _ _ eg
        have hl : DRel E.K H kvs l := ⟨e1, e2⟩
        have t : TK H (upd H p (.dK (putK l k v))) := hg.tk eg
        have hp := (hl.keep t).put k (hc.keep t)
        exact set_dict hu pins s σ H _ _ v ov iv u Q I ro ri rv ⟨p, _, rfl, DPut.k hd (by rw [hl.length]; exact h.1), kq _ _ (hg.wr (o' := .dic false (dPut kvs k c)) eg ⟨_, upd_same, hp.keys, hp.vals⟩) (FK.wr eg hd (fun _ _ z => nomatch z)) h.2⟩
      · exact h.elim
    · rename_i kvs eg
      cases b with
      | tup ys =>
        simp only at h
        split at h
        · rename_i k ek
          obtain ⟨pt, zs, rfl, ht, hr⟩ := rv_tup_inv hb
          have ev := rv_keys ek hr
          subst ev
          obtain ⟨l, hd, e1, e2⟩ := hg _ _ eg
          have hl : DRel E.K H kvs l := ⟨e1, e2⟩
          have t : TK H (upd H p (.dT (putK l k v))) := hg.tk eg
          have hp := (hl.keep t).put k (hc.keep t)
          exact set_dict hu pins s σ H _ _ v ov iv u Q I ro ri rv ⟨p, _, rfl, DPut.t hd ht (by rw [hl.length]; exact h.1), kq _ _ (hg.wr (o' := .dit false (dPut kvs k c)) eg ⟨_, upd_same, hp.keys, hp.vals⟩) (FK.wr eg hd (fun _ _ z => nomatch z)) h.2⟩
        · exact h.elim
      | _ => exact h.elim
    · exact h.elim
  | _ => exact h.elim
end
end L3
set_option maxRecDepth 100000
set_option maxHeartbeats 4000000
namespace L3
open PySem PySem.Spec L2
def flatW : W → Bool
  | .non => true
  | .bl _ => true
  | .int _ => true
  | .str _ => true
  | _ => false
def eqW : W → W → Bool
  | .non, .non => true
  | .bl a, .bl b => a == b
  | .bl a, .int b => (if a then 1 else 0) == b
  | .int a, .bl b => a == (if b then 1 else 0)
  | .int a, .int b => a == b
  | .str a, .str b => a == b
  | _, _ => false
def tyNm (g : G) : W → Option String
  | .non => some "NoneType"
  | .bl _ => some "bool"
  | .int _ => some "int"
  | .str _ => some "str"
  | .tup _ => some "tuple"
  | .scr _ => some "list"
  | .lv _ => some "list"
  | .exc _ _ _ => none
  | .ref a => match g a with
    | some (.lst _) => some "list"
    | some (.dic _ _) => some "dict"
    | some (.dit false _) => some "dict"
    | _ => none
def tyAll : List String := ["NoneType", "bool", "int", "str", "tuple", "list", "dict"]
def tySome : List String := ["bool", "int", "str", "tuple", "list", "dict"]
def isiB (n T : String) : Bool := n == T || (n == "bool" && T == "int")
theorem kitB_all : ∀ n ∈ tyAll, ∀ T ∈ tySome, kitB n T = some (isiB n T) := by decide +kernel
theorem tyNm_in {g : G} {w : W} {n : String} (h : tyNm g w = some n) : n ∈ tyAll := by
  unfold tyNm at h
  split at h <;> (try (split at h)) <;> (try (cases h)) <;> (try decide)
def isiS (T : String) (x : W) (g : G) (q : VK3) : Prop := ∃ n, tyNm g x = some n ∧ q (.bl (isiB n T)) g
section
variable {X : Cx} {E : Env3}
theorem flat_rel {K : PySem.W.Frag} {H : Hp} {x : W} {v : V} (r : RV K H x v) (f : flatW x = true) : flatV v = true := by
  cases x <;> simp [flatW] at f <;> simp only [RV] at r <;> subst r <;> rfl
theorem eq_rel {K : PySem.W.Frag} {H : Hp} {x y : W} {v u : V} (r : RV K H x v) (f : flatW x = true) (r' : RV K H y u) (f' : flatW y = true) : eqV v u = eqW x y := by
  cases x <;> simp [flatW] at f <;> simp only [RV] at r <;> subst r <;> cases y <;> simp [flatW] at f' <;> simp only [RV] at r' <;> subst r' <;> rfl
theorem flats_rel {K : PySem.W.Frag} {H : Hp} : ∀ {xs : List W} {vs : List V}, RVs K H xs vs → xs.all flatW = true → vs.all flatV = true
  | [], _, r, _ => by rw [r.nil_inv]; rfl
  | x :: xs, _, r, f => by
    obtain ⟨v, r', rfl, h1, h2⟩ := r.cons_inv
    simp at f
    simp only [List.all_cons, flat_rel h1 f.1, Bool.true_and]
    exact flats_rel h2 (by simpa using f.2)
theorem any_rel {K : PySem.W.Frag} {H : Hp} {y : W} {u : V} (r' : RV K H y u) (f' : flatW y = true) : ∀ {xs : List W} {vs : List V}, RVs K H xs vs → xs.all flatW = true → (vs.any fun z => eqV z u) = xs.any fun z => eqW z y
  | [], _, r, _ => by rw [r.nil_inv]; rfl
  | x :: xs, _, r, f => by
    obtain ⟨v, r2, rfl, h1, h2⟩ := r.cons_inv
    simp at f
    simp only [List.any_cons, eq_rel h1 f.1 r' f']
    rw [any_rel r' f' h2 (by simpa using f.2)]
def inS (neg : Bool) (x y : W) (g : G) (q : VK3) : Prop := match x, y with
  | .str a, .str z => (∃ c, a = ⟨#[c]⟩ ∧ q (.bl (xor neg (decide (c ∈ z.cps.toList)))) g) ∨ q (.bl (xor neg (!(Builtin.Str.occurrences z a 0 z.length 1).isEmpty))) g
  | x, .ref a => match g a with
    | some (.lst xs) => (flatW x = true ∧ xs.all flatW = true ∧ q (.bl (xor neg (xs.any fun z => eqW z x))) g) ∨
        ∃ d ds, DW g x d ∧ DW g (.ref a) (.list ds) ∧ d.plain = true ∧ PyData.plainAll ds = true ∧ d.depth ≤ 64 ∧ q (.bl (xor neg (ds.any fun z => PyData.eqv z d))) g
    | _ => dicAt g a x fun o => q (.bl (xor neg o.isSome)) g
  | x, .tup xs => flatW x = true ∧ xs.all flatW = true ∧ q (.bl (xor neg (xs.any fun z => eqW z x))) g
  | x, .scr xs => flatW x = true ∧ xs.all flatW = true ∧ q (.bl (xor neg (xs.any fun z => eqW z x))) g
  | x, .lv xs => (flatW x = true ∧ xs.all flatW = true ∧ q (.bl (xor neg (xs.any fun z => eqW z x))) g) ∨
      ∃ d ds, DW g x d ∧ DW g (.lv xs) (.list ds) ∧ d.plain = true ∧ PyData.plainAll ds = true ∧ d.depth ≤ 64 ∧ q (.bl (xor neg (ds.any fun z => PyData.eqv z d))) g
  | _, _ => False
theorem l_inG {op : CmpOp} {neg : Bool} (hK : X.K = E.K)
    (h1 : OpR X (compareOp op) (fun x y H Q => ∃ (c : Nat) (z : Str), x = .str ⟨#[c]⟩ ∧ y = .str z ∧ Q (.bl (xor neg (decide (c ∈ z.cps.toList)))) H))
    (h2 : OpR X (compareOp op) (fun x y H Q => ∃ i j, x = .str i ∧ y = .str j ∧ Q (.bl (xor neg (!(Builtin.Str.occurrences j i 0 j.length 1).isEmpty))) H))
    (h3 : OpR X (compareOp op) (rIn X.K neg))
    (h4 : OpR X (compareOp op) (fun x y H Q => ∃ d ds, Dp X.K H x d ∧ Dp X.K H y (.list ds) ∧ d.plain = true ∧ PyData.plainAll ds = true ∧ d.depth ≤ 64 ∧ Q (.bl (xor neg (ds.any fun z => PyData.eqv z d))) H))
    (h5 : OpR X (compareOp op) (fun x y H Q => ∃ a o, y = .ref a ∧ DGet H a x o ∧ Q (.bl (xor neg o.isSome)) H)) : OpR X (compareOp op) (lift2 E (inS neg)) := by
  intro pins s σ H x y v u Q I rx ry ⟨a, b, g, q, ha, hb, hg, h, kq⟩
  have seq : ∀ {xs : List W} {p : Addr} {ys : List V}, y = .ref p → (SqL X.K H p ys ∨ SqT X.K H p ys) → RVs E.K H xs ys → flatW a = true → xs.all flatW = true → q (.bl (xor neg (xs.any fun z => eqW z a))) g →
      wpAny (model X.prog X.w) X.A (compareOp op v u) (EP X pins σ Q) X.xe s := fun {xs p ys} e hs hr fa fs hq => by
    refine h3 pins s σ H _ _ v u Q I rx ry ⟨p, ys, e, hs, flat_rel ha fa, flats_rel hr fs, ?_⟩
    have e2 : inV x ys = xs.any fun z => eqW z a := any_rel ha fa hr fs
    rw [e2]
    refine kq _ g _ H hg rv_bl FK.refl ?_
    cases neg <;> simpa using hq
  have dic : ∀ {p : Addr}, y = .ref p → dicAt g p a (fun o => q (.bl (xor neg o.isSome)) g) → wpAny (model X.prog X.w) X.A (compareOp op v u) (EP X pins σ Q) X.xe s := fun {p} e hd => by
    obtain ⟨o, o', hq, d, r⟩ := dicAt_get hg ha hd
    refine h5 pins s σ H _ _ v u Q I rx ry ⟨p, o', e, d, kq _ g _ H hg rv_bl FK.refl ?_⟩
    rcases r with ⟨e1, e2⟩ | ⟨w', z, e1, e2, _⟩
    · rw [e1] at hq; rw [e2]; exact hq
    · rw [e1] at hq; rw [e2]; exact hq
  cases b with
  | str z =>
    cases a with
    | str i =>
      simp only [RV] at ha hb; subst ha hb
      rcases h with ⟨c, rfl, h⟩ | h
      · exact h1 pins s σ H _ _ v u Q I rx ry ⟨c, z, rfl, rfl, kq _ g _ H hg rv_bl FK.refl h⟩
      · exact h2 pins s σ H _ _ v u Q I rx ry ⟨i, z, rfl, rfl, kq _ g _ H hg rv_bl FK.refl h⟩
    | _ => exact h.elim
  | ref p =>
    have hy : y = .ref p := by simpa only [RV] using hb
    have h' : (match g p with
      | some (.lst xs) => (flatW a = true ∧ xs.all flatW = true ∧ q (.bl (xor neg (xs.any fun z => eqW z a))) g) ∨
          ∃ d ds, DW g a d ∧ DW g (.ref p) (.list ds) ∧ d.plain = true ∧ PyData.plainAll ds = true ∧ d.depth ≤ 64 ∧ q (.bl (xor neg (ds.any fun z => PyData.eqv z d))) g
      | _ => dicAt g p a fun o => q (.bl (xor neg o.isSome)) g) := by cases a <;> exact h
    split at h'
    · rename_i xs eg
      obtain ⟨ys, f1, r1⟩ := hg _ _ eg
      rcases h' with ⟨fa, fs, hq⟩ | ⟨d, ds, d1, d2, s1, s2, s3, hq⟩
      · exact seq hy (.inl (SqL.of f1)) r1 fa fs hq
      · exact h4 pins s σ H _ _ v u Q I rx ry ⟨d, ds, by rw [hK]; exact dp_of hg d1 ha, by rw [hK]; exact dp_of hg d2 hb, s1, s2, s3, kq _ g _ H hg rv_bl FK.refl hq⟩
    · exact dic hy h'
  | tup xs =>
    obtain ⟨p, ys, e, ht, hr⟩ := rv_tup_inv hb
    have h' : flatW a = true ∧ xs.all flatW = true ∧ q (.bl (xor neg (xs.any fun z => eqW z a))) g := by cases a <;> exact h
    exact seq e (.inr (SqT.of ht)) hr h'.1 h'.2.1 h'.2.2
  | scr xs =>
    obtain ⟨p, ys, e, ht, hr⟩ := rv_scr_inv hb
    have h' : flatW a = true ∧ xs.all flatW = true ∧ q (.bl (xor neg (xs.any fun z => eqW z a))) g := by cases a <;> exact h
    exact seq e (.inl (by rw [hK]; exact ht.sq)) hr h'.1 h'.2.1 h'.2.2
  | lv xs =>
    obtain ⟨p, ys, e, ht, hr⟩ := rv_lv_inv hb
    have h' : (flatW a = true ∧ xs.all flatW = true ∧ q (.bl (xor neg (xs.any fun z => eqW z a))) g) ∨
      ∃ d ds, DW g a d ∧ DW g (.lv xs) (.list ds) ∧ d.plain = true ∧ PyData.plainAll ds = true ∧ d.depth ≤ 64 ∧ q (.bl (xor neg (ds.any fun z => PyData.eqv z d))) g := by cases a <;> exact h
    rcases h' with ⟨fa, fs, hq⟩ | ⟨d, ds, d1, d2, s1, s2, s3, hq⟩
    · exact seq e (.inl (by rw [hK]; exact ht.sq)) hr fa fs hq
    · exact h4 pins s σ H _ _ v u Q I rx ry ⟨d, ds, by rw [hK]; exact dp_of hg d1 ha, by rw [hK]; exact dp_of hg d2 hb, s1, s2, s3, kq _ g _ H hg rv_bl FK.refl hq⟩
  | _ => cases a <;> exact h.elim
theorem l_in (hK : X.K = E.K) (hu : X.A.units + 65 < cLine) : OpR X (compareOp .In) (lift2 E (inS false)) :=
  l_inG hK (opI' op_in_sign fun x y H Q ⟨c, z, e1, e2, h⟩ => ⟨c, z, e1, e2, by simpa using h⟩) (opI' op_in_str fun x y H Q ⟨c, z, e1, e2, h⟩ => ⟨c, z, e1, e2, by simpa using h⟩) op_in_seq
    (fun pins s σ H x y v u Q I rx ry ⟨d, ds, a, b, c, e, f, h⟩ => by obtain ⟨as, r1⟩ := Dp.reads I d _ v a rx; obtain ⟨bs, r2⟩ := Dp.reads I (.list ds) _ u b ry; exact PySem.SeqAt.in_list_data r2 r1 e c (by have := Nat.min_le_right (PyData.depthAll ds) d.depth; omega) ⟨.bl _, H, I, rfl, by simpa using h⟩)
    (fun pins s σ H x y v u Q I rx ry ⟨a, o, e, d, h⟩ => by subst e; cases ry; exact d_in (by omega) I d rx fun s' I' => ⟨.bl o.isSome, H, I', rfl, by simpa using h⟩)
theorem l_notin (hK : X.K = E.K) (hu : X.A.units + 65 < cLine) : OpR X (compareOp .NotIn) (lift2 E (inS true)) :=
  l_inG hK (opI' op_notIn_sign fun x y H Q ⟨c, z, e1, e2, h⟩ => ⟨c, z, e1, e2, by simpa using h⟩) (opI' op_notin_str fun x y H Q ⟨c, z, e1, e2, h⟩ => ⟨c, z, e1, e2, by simpa using h⟩) op_notIn_seq
    (fun pins s σ H x y v u Q I rx ry ⟨d, ds, a, b, c, e, f, h⟩ => by obtain ⟨as, r1⟩ := Dp.reads I d _ v a rx; obtain ⟨bs, r2⟩ := Dp.reads I (.list ds) _ u b ry; exact PySem.SeqAt.notIn_list_data r2 r1 e c (by have := Nat.min_le_right (PyData.depthAll ds) d.depth; omega) ⟨.bl _, H, I, rfl, by simpa using h⟩)
    (fun pins s σ H x y v u Q I rx ry ⟨a, o, e, d, h⟩ => by subst e; cases ry; exact d_notIn (by omega) I d rx fun s' I' => ⟨.bl (!o.isSome), H, I', rfl, by simpa using h⟩)
theorem callI {f : Value} {r r' : List V → Hp → VK → Prop} (h : CallR X f r) (i : ∀ x H Q, r' x H Q → r x H Q) : CallR X f r' := fun pins s σ H xs us Q I a q => h pins s σ H xs us Q I a (i _ _ _ q)
def lenS (ws : List W) (g : G) (q : VK3) : Prop := match ws with
  | [.str z] => z.length ≤ sizeLine ∧ q (.int z.length) g
  | [.tup xs] => q (.int xs.length) g
  | [.scr xs] => q (.int xs.length) g
  | [.lv xs] => q (.int xs.length) g
  | [.ref a] => match g a with
    | some (.lst xs) => q (.int xs.length) g
    | some (.dic _ kvs) => q (.int kvs.length) g
    | _ => False
  | _ => False
theorem rvs1 {K : PySem.W.Frag} {H : Hp} {w : W} {vs : List V} (r : RVs K H [w] vs) : ∃ v, vs = [v] ∧ RV K H w v := by
  obtain ⟨v, r', rfl, h1, h2⟩ := r.cons_inv
  rw [h2.nil_inv]; exact ⟨v, rfl, h1⟩
theorem rvs2 {K : PySem.W.Frag} {H : Hp} {w w' : W} {vs : List V} (r : RVs K H [w, w'] vs) : ∃ v v', vs = [v, v'] ∧ RV K H w v ∧ RV K H w' v' := by
  obtain ⟨v, r', rfl, h1, h2⟩ := r.cons_inv
  obtain ⟨v', rfl, h3⟩ := rvs1 h2
  exact ⟨v, v', rfl, h1, h3⟩
theorem l_len (hK : X.K = E.K) : CallR X (.builtin "len") (liftL E lenS) := by
  intro pins s σ H vs us Q I r ⟨ws, g, q, hw, hg, h, kq⟩
  unfold lenS at h
  split at h
  · rename_i z
    obtain ⟨v, rfl, hv⟩ := rvs1 hw
    simp only [RV] at hv; subst hv
    exact call_len pins s σ H _ us Q I r ⟨_, _, rfl, ⟨h.1, rfl⟩, kq _ g _ H hg rv_int FK.refl h.2⟩
  · rename_i xs
    obtain ⟨v, rfl, hv⟩ := rvs1 hw
    obtain ⟨p, ys, rfl, ht, hr⟩ := rv_tup_inv hv
    exact call_len pins s σ H _ us Q I r ⟨_, ys.length, rfl, .inr ⟨ys, SqT.of ht, rfl⟩, kq _ g _ H hg (by rw [hr.length]; exact rv_int) FK.refl h⟩
  · rename_i xs
    obtain ⟨v, rfl, hv⟩ := rvs1 hw
    obtain ⟨p, ys, rfl, ht, hr⟩ := rv_scr_inv hv
    exact call_len pins s σ H _ us Q I r ⟨_, ys.length, rfl, .inl ⟨ys, by rw [hK]; exact ht.sq, rfl⟩, kq _ g _ H hg (by rw [hr.length]; exact rv_int) FK.refl h⟩
  · rename_i xs
    obtain ⟨v, rfl, hv⟩ := rvs1 hw
    obtain ⟨p, ys, rfl, ht, hr⟩ := rv_lv_inv hv
    exact call_len pins s σ H _ us Q I r ⟨_, ys.length, rfl, .inl ⟨ys, by rw [hK]; exact ht.sq, rfl⟩, kq _ g _ H hg (by rw [hr.length]; exact rv_int) FK.refl h⟩
  · rename_i a
    obtain ⟨v, rfl, hv⟩ := rvs1 hw
    simp only [RV] at hv; subst hv
    split at h
    · rename_i xs eg
      obtain ⟨ys, f1, r1⟩ := hg _ _ eg
      exact call_len pins s σ H _ us Q I r ⟨_, ys.length, rfl, .inl ⟨ys, SqL.of f1, rfl⟩, kq _ g _ H hg (by rw [r1.length]; exact rv_int) FK.refl h⟩
    · rename_i lk kvs eg
      obtain ⟨l, hd, e1, e2⟩ := hg _ _ eg
      have hl : l.length = kvs.length := by simpa using e2.length
      obtain ⟨u, rfl, ru⟩ := vals1 r
      cases ru
      exact d_len I hd.rd fun t s' I' => ⟨.int l.length, H, I', ⟨t, rfl⟩, kq _ g _ H hg (by rw [hl]; exact rv_int) FK.refl h⟩
    · exact h.elim
  · exact h.elim
def i1F (c : Int → Prop) (f : Int → W) (ws : List W) (g : G) (q : VK3) : Prop := match ws with
  | [.int i] => c i ∧ q (f i) g
  | _ => False
def i2F (c : Int → Int → Prop) (f : Int → Int → W) (ws : List W) (g : G) (q : VK3) : Prop := match ws with
  | [.int i, .int j] => c i j ∧ q (f i j) g
  | _ => False
theorem l_i1 {f : Value} {c : Int → Prop} {k : Int → W} {k' : Int → V} (hk : ∀ i H, RV E.K H (k i) (k' i)) (h0 : CallR X f (fun xs H Q => ∃ i, xs = [.int i] ∧ c i ∧ Q (k' i) H)) : CallR X f (liftL E (i1F c k)) := by
  intro pins s σ H vs us Q I r ⟨ws, g, q, hw, hg, h, kq⟩
  unfold i1F at h
  split at h
  · rename_i i
    obtain ⟨v, rfl, hv⟩ := rvs1 hw
    simp only [RV] at hv; subst hv
    exact h0 pins s σ H _ us Q I r ⟨i, rfl, h.1, kq _ g _ H hg (hk i H) FK.refl h.2⟩
  · exact h.elim
theorem l_i2F {f : Value} {c : Int → Int → Prop} {k : Int → Int → Int} (h0 : CallR X f (fun xs H Q => ∃ i j, xs = [.int i, .int j] ∧ c i j ∧ Q (.int (k i j)) H)) : CallR X f (liftL E (i2F c fun i j => .int (k i j))) := by
  intro pins s σ H vs us Q I r ⟨ws, g, q, hw, hg, h, kq⟩
  unfold i2F at h
  split at h
  · rename_i i j
    obtain ⟨v, v', rfl, hv, hv'⟩ := rvs2 hw
    simp only [RV] at hv hv'; subst hv hv'
    exact h0 pins s σ H _ us Q I r ⟨i, j, rfl, h.1, kq _ g _ H hg rv_int FK.refl h.2⟩
  · exact h.elim
def absS := i1F (fun _ => True) fun i => .int (if i < 0 then -i else i)
def strS (ws : List W) (g : G) (q : VK3) : Prop := match ws with
  | [.str a] => q (.str a) g
  | ws => i1F (fun i => i.natAbs.log2 < 1920) (fun i => .str (toString i)) ws g q
def max2S := i2F (fun _ _ => True) fun i j => .int (if j > i then j else i)
def min2S := i2F (fun _ _ => True) fun i j => .int (if j < i then j else i)
theorem l_abs : CallR X (.builtin "abs") (liftL E absS) := l_i1 (k' := fun i => .int (if i < 0 then -i else i)) (fun _ _ => rv_int) (callI call_abs fun x H Q ⟨i, a, _, b⟩ => ⟨i, a, b⟩)
theorem l_str : CallR X (.type "str") (liftL E strS) := by
  intro pins s σ H vs us Q I r ⟨ws, g, q, hw, hg, h, kq⟩
  unfold strS at h
  split at h
  · rename_i z
    obtain ⟨v, rfl, hv⟩ := rvs1 hw
    simp only [RV] at hv; subst hv
    exact SkE.call_str_str pins s σ H _ us Q I r ⟨z, rfl, kq _ g _ H hg rv_str FK.refl h⟩
  · exact l_i1 (X := X) (E := E) (f := .type "str") (k' := fun i => .str (toString i)) (fun _ _ => rv_str) (callI call_str_int fun x H Q ⟨i, a, b, c⟩ => ⟨i, a, b, c⟩) pins s σ H vs us Q I r ⟨_, g, q, hw, hg, h, kq⟩
theorem l_max2 (hc : X.calm = true) : CallR X (.builtin "max") (liftL E max2S) := l_i2F (callI (call_max2 hc) fun x H Q ⟨i, j, a, _, b⟩ => ⟨i, j, a, b⟩)
theorem l_min2 (hc : X.calm = true) : CallR X (.builtin "min") (liftL E min2S) := l_i2F (callI (call_min2 hc) fun x H Q ⟨i, j, a, _, b⟩ => ⟨i, j, a, b⟩)
def seqI (x : W) (g : G) (k : List Int → Prop) : Prop := seqAt g x fun xs => ∃ ns : List Int, xs = ns.map W.int ∧ k ns
def mx2 (i j : Int) : Int := if j > i then j else i
def maxS (ws : List W) (g : G) (q : VK3) : Prop := match ws with
  | [.ref a] => lstAt g a fun xs => ∃ ns : List Int, xs = ns.map W.int ∧ 0 < ns.length ∧ ∀ m, m ∈ ns → (∀ y, y ∈ ns → y ≤ m) → q (.int m) g
  | [.lv xs] => ∃ ns : List Int, xs = ns.map W.int ∧ 0 < ns.length ∧ ∀ m, m ∈ ns → (∀ y, y ∈ ns → y ≤ m) → q (.int m) g
  | [.int a, .int b, .int c] => q (.int (mx2 (mx2 a b) c)) g
  | ws => max2S ws g q
def minL (xs : List W) (g : G) (q : VK3) : Prop := ∃ (enc : W → PyData) (y : W) (ys : List W), xs = y :: ys ∧ (∀ x ∈ xs, DW g x (enc x)) ∧ PySem.W.AlikeAll (xs.map enc) ∧ PyData.depthAll (xs.map enc) ≤ 64 ∧ ∀ z ∈ xs, enc z = PySem.W.minD (enc y) (ys.map enc) → q z g
def minS (ws : List W) (g : G) (q : VK3) : Prop := match ws with
  | [.ref a] => lstAt g a fun xs => (∃ ns : List Int, xs = ns.map W.int ∧ 0 < ns.length ∧ ∀ m, m ∈ ns → (∀ y, y ∈ ns → m ≤ y) → q (.int m) g) ∨ minL xs g q
  | [.lv xs] => ∃ ns : List Int, xs = ns.map W.int ∧ 0 < ns.length ∧ ∀ m, m ∈ ns → (∀ y, y ∈ ns → m ≤ y) → q (.int m) g
  | ws => min2S ws g q
theorem nu2 (a b : Int) : nuMax2 (.int a) (.int b) = some (.int (mx2 a b)) := by
  show some (if decide (a < b) = true then V.int b else V.int a) = _
  unfold mx2
  by_cases h : a < b <;> simp [h]
theorem nu3 (a b c : Int) : nuMax3 (.int a) (.int b) (.int c) = some (.int (mx2 (mx2 a b) c)) := by
  show (nuMax2 (.int a) (.int b)).bind (fun m => nuMax2 m (.int c)) = _
  rw [nu2]
  exact nu2 _ _
def mxdL (mn : Bool) (xs : List W) (z : W) (g : G) (q : VK3) : Prop := ∃ ns : List Int, xs = ns.map W.int ∧ (ns = [] → q z g) ∧ ∀ m, m ∈ ns → (∀ y, y ∈ ns → (if mn = true then m ≤ y else y ≤ m)) → q (.int m) g
def mxdS (mn : Bool) (x z : W) (g : G) (q : VK3) : Prop := match x with
  | .ref a => lstAt g a fun xs => mxdL mn xs z g q
  | .lv xs => mxdL mn xs z g q
  | _ => False
theorem l_max (hK : X.K = E.K) (hc : X.calm = true) : CallR X (.builtin "max") (liftL E maxS) := by
  intro pins s σ H vs us Q I r ⟨ws, g, q, hw, hg, h, kq⟩
  unfold maxS at h
  split at h
  · rename_i a
    obtain ⟨v, rfl, hv⟩ := rvs1 hw
    simp only [RV] at hv; subst hv
    obtain ⟨xs, eg, ns, rfl, hn, h⟩ := lstAt_inv h
    obtain ⟨ys, f1, r1⟩ := hg _ _ eg
    have e := r1.ints
    subst e
    exact cr_max hc pins s σ H _ us Q I r ⟨a, ns, rfl, SqL.of f1, hn, fun m h1 h2 => kq _ g _ H hg rv_int FK.refl (h m h1 h2)⟩
  · rename_i xs
    obtain ⟨v, rfl, hv⟩ := rvs1 hw
    obtain ⟨ns, rfl, hn, h⟩ := h
    obtain ⟨p, ys, rfl, ht, hr⟩ := rv_lv_inv hv
    have e := hr.ints
    subst e
    exact cr_max hc pins s σ H _ us Q I r ⟨p, ns, rfl, by rw [hK]; exact ht.sq, hn, fun m h1 h2 => kq _ g _ H hg rv_int FK.refl (h m h1 h2)⟩
  · rename_i a b c
    obtain ⟨v1, vs, rfl, h1, hw⟩ := hw.cons_inv
    obtain ⟨v2, vs, rfl, h2, hw⟩ := hw.cons_inv
    obtain ⟨v3, vs, rfl, h3, hw⟩ := hw.cons_inv
    have e := hw.nil_inv
    simp only [RV] at h1 h2 h3
    subst h1 h2 h3 e
    exact call_max3Nu hc pins s σ H _ us Q I r ⟨.int a, .int b, .int c, .int (mx2 (mx2 a b) c), rfl, nu3 a b c, kq _ g _ H hg rv_int FK.refl h⟩
  · exact l_max2 hc pins s σ H vs us Q I r ⟨_, g, q, hw, hg, h, kq⟩
def sumS (ws : List W) (g : G) (q : VK3) : Prop := match ws with
  | [.ref a] => lstAt g a fun xs => ∃ ns : List Int, xs = ns.map W.int ∧ q (.int ns.sum) g
  | [.lv xs] => ∃ ns : List Int, xs = ns.map W.int ∧ q (.int ns.sum) g
  | _ => False
theorem l_sum (hK : X.K = E.K) (hc : X.calm = true) : CallR X (.builtin "sum") (liftL E sumS) := by
  intro pins s σ H vs us Q I r ⟨ws, g, q, hw, hg, h, kq⟩
  unfold sumS at h
  split at h
  · rename_i a
    obtain ⟨v, rfl, hv⟩ := rvs1 hw
    simp only [RV] at hv; subst hv
    obtain ⟨xs, eg, ns, rfl, h⟩ := lstAt_inv h
    obtain ⟨ys, f1, r1⟩ := hg _ _ eg
    have e := r1.ints
    subst e
    exact cr_sum hc pins s σ H _ us Q I r ⟨a, ns, rfl, SqL.of f1, kq _ g _ H hg rv_int FK.refl h⟩
  · rename_i xs
    obtain ⟨v, rfl, hv⟩ := rvs1 hw
    obtain ⟨ns, rfl, h⟩ := h
    obtain ⟨p, ys, rfl, ht, hr⟩ := rv_lv_inv hv
    have e := hr.ints
    subst e
    exact cr_sum hc pins s σ H _ us Q I r ⟨p, ns, rfl, by rw [hK]; exact ht.sq, kq _ g _ H hg rv_int FK.refl h⟩
  · exact h.elim
theorem RVs.bls {K : PySem.W.Frag} {H : Hp} : ∀ {is : List Bool} {vs : List V}, RVs K H (is.map W.bl) vs → vs = is.map V.bl
  | [], _, h => h.nil_inv
  | i :: is, _, h => by obtain ⟨v, r, rfl, h1, h2⟩ := h.cons_inv; rw [RV] at h1; rw [h1, h2.bls]; rfl
def allS (any : Bool) (ws : List W) (g : G) (q : VK3) : Prop := match ws with
  | [.ref a] => lstAt g a fun xs => ∃ bs : List Bool, xs = bs.map W.bl ∧ q (.bl (if any then bs.any id else bs.all id)) g
  | [.lv xs] => ∃ bs : List Bool, xs = bs.map W.bl ∧ q (.bl (if any then bs.any id else bs.all id)) g
  | _ => False
theorem l_all (hK : X.K = E.K) (hc : X.calm = true) : CallR X (.builtin "all") (liftL E (allS false)) := by
  intro pins s σ H vs us Q I r ⟨ws, g, q, hw, hg, h, kq⟩
  unfold allS at h
  split at h
  · rename_i a
    obtain ⟨v, rfl, hv⟩ := rvs1 hw
    simp only [RV] at hv; subst hv
    obtain ⟨xs, eg, ns, rfl, h⟩ := lstAt_inv h
    obtain ⟨ys, f1, r1⟩ := hg _ _ eg
    have e := r1.bls
    subst e
    exact cr_all hc pins s σ H _ us Q I r ⟨a, ns, rfl, SqL.of f1, kq _ g _ H hg rv_bl FK.refl (by simpa using h)⟩
  · rename_i xs
    obtain ⟨v, rfl, hv⟩ := rvs1 hw
    obtain ⟨ns, rfl, h⟩ := h
    obtain ⟨p, ys, rfl, ht, hr⟩ := rv_lv_inv hv
    have e := hr.bls
    subst e
    exact cr_all hc pins s σ H _ us Q I r ⟨p, ns, rfl, by rw [hK]; exact ht.sq, kq _ g _ H hg rv_bl FK.refl (by simpa using h)⟩
  · exact h.elim
theorem l_any (hK : X.K = E.K) (hc : X.calm = true) : CallR X (.builtin "any") (liftL E (allS true)) := by
  intro pins s σ H vs us Q I r ⟨ws, g, q, hw, hg, h, kq⟩
  unfold allS at h
  split at h
  · rename_i a
    obtain ⟨v, rfl, hv⟩ := rvs1 hw
    simp only [RV] at hv; subst hv
    obtain ⟨xs, eg, ns, rfl, h⟩ := lstAt_inv h
    obtain ⟨ys, f1, r1⟩ := hg _ _ eg
    have e := r1.bls
    subst e
    exact cr_any hc pins s σ H _ us Q I r ⟨a, ns, rfl, SqL.of f1, kq _ g _ H hg rv_bl FK.refl (by simpa using h)⟩
  · rename_i xs
    obtain ⟨v, rfl, hv⟩ := rvs1 hw
    obtain ⟨ns, rfl, h⟩ := h
    obtain ⟨p, ys, rfl, ht, hr⟩ := rv_lv_inv hv
    have e := hr.bls
    subst e
    exact cr_any hc pins s σ H _ us Q I r ⟨p, ns, rfl, by rw [hK]; exact ht.sq, kq _ g _ H hg rv_bl FK.refl (by simpa using h)⟩
  · exact h.elim
def sortL (xs : List W) (g : G) (q : VK3) : Prop := ∃ enc : W → PyData, (∀ x ∈ xs, DW g x (enc x)) ∧ PySem.W.AllAlike (xs.map enc) ∧ PySem.W.Sortable (xs.map enc) ∧ (∀ x ∈ xs, (enc x).depth ≤ 64) ∧ newL g (xs.mergeSort (PySem.W.dataLe false enc)) q
def keysL (x : W) (g : G) (k : List Key → Prop) : Prop := match x with
  | .ref a => lstAt g a fun xs => ∃ ks : List Key, xs = ks.map kW ∧ k ks
  | .scr xs => ∃ ks : List Key, xs = ks.map kW ∧ k ks
  | .lv xs => ∃ ks : List Key, xs = ks.map kW ∧ k ks
  | _ => False
def lsetS (x : W) (g : G) (q : VK3) : Prop := keysL x g fun ks => ks.length ≤ 4000 ∧ ∀ ms : List Key, ms.Nodup → (∀ k, k ∈ ms ↔ k ∈ ks) → q (.int (ms.length : Nat)) g
def ssetS (x : W) (g : G) (q : VK3) : Prop := keysL x g fun ks => ks.length ≤ 4000 ∧ ∀ ms : List Key, ms.Nodup → (∀ k, k ∈ ms ↔ k ∈ ks) → sortL (ms.map kW) g q
def sortedS3 (ws : List W) (g : G) (q : VK3) : Prop := match ws with
  | [.ref a] => match g a with
    | some (.lst xs) => sortL xs g q
    | some (.dic _ kvs) => sortL (kvs.map fun p => kW p.1) g q
    | some (.dit _ kvs) => sortL (kvs.map fun p => ktW p.1) g q
    | _ => False
  | [.scr xs] => sortL xs g q
  | [.lv xs] => sortL xs g q
  | _ => False
def dictS (ws : List W) (g : G) (q : VK3) : Prop := match ws with
  | [.ref a] => match g a with
    | some (.dic _ kvs) => ∀ p, g p = none → q (.ref p) (gup g p (.dic false kvs))
    | _ => False
  | _ => False
def dgetS (a y d : W) (g : G) (q : VK3) : Prop := match a with
  | .ref p => dicAt g p y fun o => q (o.getD d) g
  | _ => False
def setdS (a y d : W) (g : G) (q : VK3) : Prop := match a with
  | .ref p => match g p, toKey y with
    | some (.dic false kvs), some k => kvs.length < sizeLine ∧ match dGet kvs k with
      | some v => q v g
      | none => q d (gup g p (.dic false (dPut kvs k d)))
    | _, _ => False
  | _ => False
def dpopS (a y : W) (g : G) (q : VK3) : Prop := match a with
  | .ref p => match g p, toKey y with
    | some (.dic false kvs), some k => ∃ v, dGet kvs k = some v ∧ q v (gup g p (.dic false (dDel kvs k)))
    | _, _ => False
  | _ => False
def dpop2S (a y d : W) (g : G) (q : VK3) : Prop := match a with
  | .ref p => match g p, toKey y with
    | some (.dic false kvs), some k => match dGet kvs k with
      | some v => q v (gup g p (.dic false (dDel kvs k)))
      | none => q d g
    | _, _ => False
  | _ => False
def indexS (x : W) (ws : List W) (g : G) (q : VK3) : Prop := match x, ws with
  | .ref a, [y] => lstAt g a fun xs => flatW y = true ∧ xs.all flatW = true ∧ ∃ (j : Nat) (z : W), xs[j]? = some z ∧ eqW z y = true ∧ (∀ (m : Nat) (z' : W), m < j → xs[m]? = some z' → eqW z' y = false) ∧ q (.int (j : Nat)) g
  | .lv xs, [y] => flatW y = true ∧ xs.all flatW = true ∧ ∃ (j : Nat) (z : W), xs[j]? = some z ∧ eqW z y = true ∧ (∀ (m : Nat) (z' : W), m < j → xs[m]? = some z' → eqW z' y = false) ∧ q (.int (j : Nat)) g
  | _, _ => False
def removeS (x : W) (ws : List W) (g : G) (q : VK3) : Prop := match x, ws with
  | .ref a, [y] => lstAt g a fun xs => ∃ (enc : W → PyData) (d : PyData) (j : Nat), (∀ x ∈ xs, DW g x (enc x)) ∧ DW g y d ∧ PyData.plainAll (xs.map enc) = true ∧ d.plain = true ∧ d.depth ≤ 64 ∧ PySem.SeqAt.dataPlace (xs.map enc) d = some j ∧ q .non (gup g a (.lst (xs.eraseIdx j)))
  | _, _ => False
def intS (ws : List W) (g : G) (q : VK3) : Prop := match ws with
  | [.int i] => q (.int i) g
  | [.bl b] => q (.int (if b then 1 else 0)) g
  | [.str a] => a.length ≤ 640 ∧ ∃ n, PySem.intText? a = some n ∧ q (.int n) g
  | _ => False
theorem l_int : CallR X (.type "int") (liftL E intS) := by
  intro pins s σ H vs us Q I r ⟨ws, g, q, hw, hg, h, kq⟩
  unfold intS at h
  split at h
  · rename_i i
    obtain ⟨v, rfl, hv⟩ := rvs1 hw
    simp only [RV] at hv; subst hv
    exact call_int1 pins s σ H _ us Q I r (.inl ⟨i, rfl, kq _ g _ H hg rv_int FK.refl h⟩)
  · rename_i b
    obtain ⟨v, rfl, hv⟩ := rvs1 hw
    simp only [RV] at hv; subst hv
    exact call_int1 pins s σ H _ us Q I r (.inr ⟨b, rfl, kq _ g _ H hg rv_int FK.refl h⟩)
  · rename_i a
    obtain ⟨v, rfl, hv⟩ := rvs1 hw
    simp only [RV] at hv; subst hv
    obtain ⟨ha, n, e, h⟩ := h
    exact call_int_str pins s σ H _ us Q I r ⟨a, n, rfl, e, ha, kq _ g _ H hg rv_int FK.refl h⟩
  · exact h.elim
def listS (ws : List W) (g : G) (q : VK3) : Prop := match ws with
  | [.ref a] => match g a with
    | some (.lst xs) => newL g xs q
    | some (.dic false kvs) => newL g (kvs.map fun p => kW p.1) q
    | _ => False
  | [.tup xs] => newL g xs q
  | [.scr xs] => newL g xs q
  | [.lv xs] => newL g xs q
  | _ => False
theorem rvs_keys {K : PySem.W.Frag} {H : Hp} : ∀ (l : List Key), RVs K H (l.map kW) (l.map kV)
  | [] => .nil
  | .inl i :: l => .cons rv_int (rvs_keys l)
  | .inr i :: l => .cons rv_str (rvs_keys l)
theorem rvs_dkeys {K : PySem.W.Frag} {H : Hp} {kvs : List (Key × W)} {l : List (Key × V)} (e : kvs.map (·.1) = l.map (·.1)) : RVs K H (kvs.map fun p => kW p.1) (l.map fun p => kV p.1) := by
  have e1 : (kvs.map fun p => kW p.1) = (kvs.map (·.1)).map kW := by simp [Function.comp_def]
  have e2 : (l.map fun p => kV p.1) = (l.map (·.1)).map kV := by simp [Function.comp_def]
  rw [e1, e2, e]
  exact rvs_keys _
theorem l_list (hK : X.K = E.K) (hc : X.calm = true) : CallR X (.type "list") (liftL E listS) := by
  intro pins s σ H vs us Q I r ⟨ws, g, q, hw, hg, h, kq⟩
  unfold listS at h
  split at h
  · rename_i a
    obtain ⟨v, rfl, hv⟩ := rvs1 hw
    simp only [RV] at hv; subst hv
    split at h
    · rename_i xs eg
      obtain ⟨ys, f1, r1⟩ := hg _ _ eg
      exact call_list_of pins s σ H _ us Q I r ⟨a, ys, rfl, .inl (SqL.of f1), fun l hl => new_lst hg hl r1 h kq⟩
    · rename_i kvs eg
      obtain ⟨l, hd, e1, e2⟩ := hg _ _ eg
      exact call_list_dK hc pins s σ H _ us Q I r ⟨a, l, rfl, hd, fun t nt => new_lst hg nt (rvs_dkeys e1) h kq⟩
    · exact h.elim
  · rename_i xs
    obtain ⟨v, rfl, hv⟩ := rvs1 hw
    obtain ⟨p, ys, rfl, ht, hr⟩ := rv_tup_inv hv
    exact call_list_of pins s σ H _ us Q I r ⟨p, ys, rfl, .inr (SqT.of ht), fun l hl => new_lst hg hl hr h kq⟩
  · rename_i xs
    obtain ⟨v, rfl, hv⟩ := rvs1 hw
    obtain ⟨p, ys, rfl, ht, hr⟩ := rv_scr_inv hv
    exact call_list_of pins s σ H _ us Q I r ⟨p, ys, rfl, .inl (by rw [hK]; exact ht.sq), fun l hl => new_lst hg hl hr h kq⟩
  · rename_i xs
    obtain ⟨v, rfl, hv⟩ := rvs1 hw
    obtain ⟨p, ys, rfl, ht, hr⟩ := rv_lv_inv hv
    exact call_list_of pins s σ H _ us Q I r ⟨p, ys, rfl, .inl (by rw [hK]; exact ht.sq), fun l hl => new_lst hg hl hr h kq⟩
  · exact h.elim
def divmodS (ws : List W) (g : G) (q : VK3) : Prop := match ws with
  | [.int i, .int j] => CDivP i j ∧ q (.tup [.int (i / j), .int (i % j)]) g
  | _ => False
theorem l_divmod : CallR X (.builtin "divmod") (liftL E divmodS) := by
  intro pins s σ H vs us Q I r ⟨ws, g, q, hw, hg, h, kq⟩
  unfold divmodS at h
  split at h
  · rename_i i j
    obtain ⟨v, v', rfl, hv, hv'⟩ := rvs2 hw
    simp only [RV] at hv hv'; subst hv hv'
    exact call_divmodW pins s σ H _ us Q I r ⟨i, j, rfl, h.1, fun p np => new_tup hg np (.cons rv_int (.cons rv_int .nil)) h.2 kq⟩
  · exact h.elim
def isLst (x : W) (g : G) : Prop := match x with
  | .ref a => ∃ xs, g a = some (.lst xs)
  | .lv _ => True
  | _ => False
def isStr (x : W) (_ : G) : Prop := match x with
  | .str _ => True
  | _ => False
def isDic (x : W) (g : G) : Prop := match x with
  | .ref a => match g a with
    | some (.dic _ _) => True
    | some (.dit _ _) => True
    | _ => False
  | _ => False
def appendS (x : W) (ws : List W) (g : G) (q : VK3) : Prop := match x, ws with
  | .ref a, [w] => lstAt g a fun xs => xs.length < sizeLine ∧ q .non (gup g a (.lst (xs ++ [w])))
  | _, _ => False
theorem l_append : MtR X "list.append" (liftM E appendS) := by
  intro pins s σ H x vs v us Q I rx r ⟨a, ws, g, q, ha, hw, hg, h, kq⟩
  unfold appendS at h
  split at h
  · rename_i p w
    simp only [RV] at ha; subst ha
    obtain ⟨y, rfl, hy⟩ := rvs1 hw
    obtain ⟨xs, eg, h1, h2⟩ := lstAt_inv h
    obtain ⟨ys, f1, r1⟩ := hg _ _ eg
    have t : TK H (upd H p (.lst (ys ++ [y]))) := hg.tk eg
    exact mt_append pins s σ H _ _ v us Q I rx r ⟨p, ys, y, rfl, rfl, f1, by rw [r1.length]; exact h1, kq _ _ _ _ (hg.wr (o' := .lst (xs ++ [w])) eg ⟨_, upd_same, (r1.keep t).append (.cons (hy.keep t) .nil)⟩) rv_non (FK.wr eg f1 (fun _ _ z => nomatch z)) h2⟩
  · exact h.elim
def extendS (x : W) (ws : List W) (g : G) (q : VK3) : Prop := match x, ws with
  | .ref a, [.ref b] => lstAt g a fun xs => lstAt g b fun zs => xs.length + zs.length ≤ sizeLine ∧ q .non (gup g a (.lst (xs ++ zs)))
  | .ref a, [.lv zs] => lstAt g a fun xs => xs.length + zs.length ≤ sizeLine ∧ q .non (gup g a (.lst (xs ++ zs)))
  | _, _ => False
theorem mt_extendR : MtR X "list.extend" (fun x vs H Q => ∃ l b xs zs, x = .ref l ∧ vs = [.ref b] ∧ H l = some (.lst xs) ∧ Rd H b (.lst zs) ∧ xs.length + zs.length ≤ sizeLine ∧ Q .non (upd H l (.lst (xs ++ zs)))) := by
  intro pins s σ H x vs v us Q I rx rv h
  obtain ⟨l, b, xs, zs, rfl, rfl, hH, hB, hz, q⟩ := h
  cases rx
  obtain ⟨u, rfl, ru⟩ := rv.one
  cases ru
  obtain ⟨z, its, n, r, hl, e⟩ := I.lstM hH
  obtain ⟨z2, its2, n2, r2, hl2, e2⟩ := rd_lstM I hB
  have hsz : its.toArray.size + its2.toArray.size ≤ sizeLine := by rw [List.size_toArray, List.size_toArray]; omega
  have hlong : ¬ (!its.toArray.isEmpty && Builtin.List.listTooLong (its.toArray.size + its2.toArray.size)) = true := by
    rw [notLongL hsz, Bool.and_false]
    exact Bool.false_ne_true
  refine call_meets F.slot_list_extend ⟨_, e, rfl⟩ F.entry_list_extend (F.args_list_extend_2 _ _)
    (AutoSeq1.list_extend_list_list_0 l its.toArray n b its2.toArray n2 hlong (by rw [List.size_toArray]; omega) (by omega)) ⟨e, e2, ?_⟩
  refine ⟨.non, _, I.lset (its' := its ++ its2) hH e (by simp) (r.append r2) ?_, rfl, q⟩
  rw [List.length_append]
  omega
theorem l_extend : MtR X "list.extend" (liftM E extendS) := by
  intro pins s σ H x vs v us Q I rx r ⟨a, ws, g, q, ha, hw, hg, h, kq⟩
  unfold extendS at h
  split at h
  · rename_i p b
    simp only [RV] at ha; subst ha
    obtain ⟨y, rfl, hy⟩ := rvs1 hw
    simp only [RV] at hy; subst hy
    obtain ⟨xs, eg, h⟩ := lstAt_inv h
    obtain ⟨zs, eb, h1, h2⟩ := lstAt_inv h
    obtain ⟨ys, f1, r1⟩ := hg _ _ eg
    obtain ⟨zv, f2, r2⟩ := hg _ _ eb
    have t : TK H (upd H p (.lst (ys ++ zv))) := hg.tk eg
    exact mt_extend pins s σ H _ _ v us Q I rx r ⟨p, b, ys, zv, rfl, rfl, f1, f2, by rw [r1.length, r2.length]; exact h1, kq _ _ _ _ (hg.wr (o' := .lst (xs ++ zs)) eg ⟨_, upd_same, (r1.keep t).append (r2.keep t)⟩) rv_non (FK.wr eg f1 (fun _ _ z => nomatch z)) h2⟩
  · rename_i p zs
    simp only [RV] at ha; subst ha
    obtain ⟨y, rfl, hy⟩ := rvs1 hw
    obtain ⟨xs, eg, h⟩ := lstAt_inv h
    obtain ⟨ys, f1, r1⟩ := hg _ _ eg
    obtain ⟨b, zv, rfl, ⟨o, f2⟩, r2⟩ := rv_lv_fr hy
    have t : TK H (upd H p (.lst (ys ++ zv))) := hg.tk eg
    exact mt_extendR pins s σ H _ _ v us Q I rx r ⟨p, b, ys, zv, rfl, rfl, f1, .inr ⟨o, f2⟩, by rw [r1.length, r2.length]; exact h.1, kq _ _ _ _ (hg.wr (o' := .lst (xs ++ zs)) eg ⟨_, upd_same, (r1.keep t).append (r2.keep t)⟩) rv_non (FK.wr eg f1 (fun _ _ z => nomatch z)) h.2⟩
  · exact h.elim
def popS (x : W) (ws : List W) (g : G) (q : VK3) : Prop := match x, ws with
  | .ref a, [] => lstAt g a fun xs => ∃ y, xs[xs.length - 1]? = some y ∧ q y (gup g a (.lst xs.dropLast))
  | _, _ => False
theorem l_pop : MtR X "list.pop" (liftM E popS) := by
  intro pins s σ H x vs v us Q I rx r ⟨a, ws, g, q, ha, hw, hg, h, kq⟩
  unfold popS at h
  split at h
  · rename_i p
    simp only [RV] at ha; subst ha
    have e0 := hw.nil_inv
    subst e0
    obtain ⟨xs, eg, y, e1, h2⟩ := lstAt_inv h
    obtain ⟨ys, f1, r1⟩ := hg _ _ eg
    obtain ⟨z, e2, rz⟩ := r1.get e1
    have t : TK H (upd H p (.lst ys.dropLast)) := hg.tk eg
    exact mt_pop pins s σ H _ _ v us Q I rx r ⟨p, ys, z, rfl, rfl, f1, by rw [r1.length]; exact e2, kq _ _ _ _ (hg.wr (o' := .lst xs.dropLast) eg ⟨_, upd_same, (r1.keep t).dropLast⟩) (rz.keep t) (FK.wr eg f1 (fun _ _ z => nomatch z)) h2⟩
  · exact h.elim
def joinS (x : W) (ws : List W) (g : G) (q : VK3) : Prop := match x, ws with
  | .str a, [.ref b] => lstAt g b fun xs => ∃ ys : List Str, xs = ys.map W.str ∧ (ys.map (·.length)).sum + ys.length * a.length ≤ 16777216 ∧ q (.str (Txt.join a ys)) g
  | .str a, [.lv xs] => ∃ ys : List Str, xs = ys.map W.str ∧ (ys.map (·.length)).sum + ys.length * a.length ≤ 16777216 ∧ q (.str (Txt.join a ys)) g
  | _, _ => False
theorem l_join (hK : X.K = E.K) : MtR X "str.join" (liftM E joinS) := by
  intro pins s σ H x vs v us Q I rx r ⟨a, ws, g, q, ha, hw, hg, h, kq⟩
  unfold joinS at h
  split at h
  · rename_i z b
    simp only [RV] at ha; subst ha
    obtain ⟨y, rfl, hy⟩ := rvs1 hw
    simp only [RV] at hy; subst hy
    obtain ⟨xs, eg, ys, rfl, h1, h2⟩ := lstAt_inv h
    obtain ⟨yv, f1, r1⟩ := hg _ _ eg
    have e := r1.strs
    subst e
    exact mt_join pins s σ H _ _ v us Q I rx r ⟨z, b, ys, rfl, rfl, .inl (SqL.of f1), h1, kq _ g _ H hg rv_str FK.refl h2⟩
  · rename_i z xs
    simp only [RV] at ha; subst ha
    obtain ⟨y, rfl, hy⟩ := rvs1 hw
    obtain ⟨ys, rfl, h1, h2⟩ := h
    obtain ⟨p, yv, rfl, ht, hr⟩ := rv_lv_inv hy
    have e := hr.strs
    subst e
    exact mt_join pins s σ H _ _ v us Q I rx r ⟨z, p, ys, rfl, rfl, .inl (by rw [hK]; exact ht.sq), h1, kq _ g _ H hg rv_str FK.refl h2⟩
  · exact h.elim
def splitS (x : W) (ws : List W) (g : G) (q : VK3) : Prop := match x, ws with
  | .str a, [.str b] => (b.length == 0) = false ∧ a.length + 2 ≤ sizeLine ∧ newL g ((Txt.split a b).map W.str) q
  | _, _ => False
theorem l_split : MtR X "str.split" (liftM E splitS) := by
  intro pins s σ H x vs v us Q I rx r ⟨a, ws, g, q, ha, hw, hg, h, kq⟩
  unfold splitS at h
  split at h
  · rename_i z b
    simp only [RV] at ha; subst ha
    obtain ⟨y, rfl, hy⟩ := rvs1 hw
    simp only [RV] at hy; subst hy
    exact mt_split pins s σ H _ _ v us Q I rx r ⟨z, b, rfl, rfl, h.1, h.2.1, fun p np => new_lst hg np (RVs.of_strs _) h.2.2 kq⟩
  · exact h.elim
def partitionS (x : W) (ws : List W) (g : G) (q : VK3) : Prop := match x, ws with
  | .str a, [.str b] => (b.length == 0) = false ∧ a.length ≤ sizeLine ∧ q (.tup [.str (Txt.partition a b).1, .str (Txt.partition a b).2.1, .str (Txt.partition a b).2.2]) g
  | _, _ => False
theorem l_partition : MtR X "str.partition" (liftM E partitionS) := by
  intro pins s σ H x vs v us Q I rx r ⟨a, ws, g, q, ha, hw, hg, h, kq⟩
  unfold partitionS at h
  split at h
  · rename_i z b
    simp only [RV] at ha; subst ha
    obtain ⟨y, rfl, hy⟩ := rvs1 hw
    simp only [RV] at hy; subst hy
    exact mt_partition pins s σ H _ _ v us Q I rx r ⟨z, b, rfl, rfl, h.1, h.2.1, fun p np => new_tup hg np (.cons rv_str (.cons rv_str (.cons rv_str .nil))) h.2.2 kq⟩
  · exact h.elim
end
def dEq (ka kb : List (Key × W)) (e : Key → Bool) : Bool := ka.length == kb.length && ka.all fun p => (dGet kb p.1).isSome && e p.1
inductive EqW (g : G) : Nat → W → W → Bool → Prop
  | data {n : Nat} {x y : W} {d e : PyData} (h1 : DW g x d) (h2 : DW g y e) (p1 : d.plain = true) (p2 : e.plain = true) (hn : d.depth ≤ n) : EqW g n x y (PyData.eqv d e)
  | same {n : Nat} {a : Addr} : EqW g n (.ref a) (.ref a) true
  | dicts {n : Nat} {a b : Addr} {lk lk' : Bool} {ka kb : List (Key × W)} {e : Key → Bool} (ne : a ≠ b) (ha : g a = some (.dic lk ka)) (hb : g b = some (.dic lk' kb)) (t : ∀ k v y, (k, v) ∈ ka → dGet kb k = some y → EqW g n v y (e k)) :
      EqW g (n + 1) (.ref a) (.ref b) (dEq ka kb e)
  | lists {n : Nat} {a b : Addr} {xs ys : List W} {e : Nat → Bool} (ne : a ≠ b) (ha : g a = some (.lst xs)) (hb : g b = some (.lst ys)) (hl : xs.length = ys.length) (t : ∀ i x y, xs[i]? = some x → ys[i]? = some y → EqW g n x y (e i)) :
      EqW g (n + 1) (.ref a) (.ref b) ((List.range xs.length).all e)
def deqS (neg : Bool) (x y : W) (g : G) (q : VK3) : Prop := match x, y with
  | .ref a, .ref b => match g a, g b with
    | some (.dic _ ka), some (.dic _ kb) => ∃ (n : Nat) (e : Key → Bool), n ≤ 50 ∧ (∀ k v y, (k, v) ∈ ka → dGet kb k = some y → EqW g n v y (e k)) ∧ q (.bl (xor neg (dEq ka kb e))) g
    | some (.lst xs), some (.lst ys) => xs.length = ys.length ∧ ∃ (n : Nat) (e : Nat → Bool), n ≤ 50 ∧ (∀ i x y, xs[i]? = some x → ys[i]? = some y → EqW g n x y (e i)) ∧ q (.bl (xor neg ((List.range xs.length).all e))) g
    | _, _ => False
  | _, _ => False
end L3
set_option maxRecDepth 100000
set_option maxHeartbeats 4000000
namespace L3
open PySem PySem.Spec L2
def putG (f : Str) (v : W) : List (Str × W) → List (Str × W)
  | [] => [(f, v)]
  | (g, x) :: r => if g = f then (g, v) :: r else (g, x) :: putG f v r
inductive Bo | add | sub | mul | fdiv | mod | pow
  deriving DecidableEq
inductive Co | eq | ne | lt | le | gt | ge | is | isnot | in_ | notin | deq | dne
  deriving DecidableEq
inductive Pr | len | abs | str | max | min | sum | all | any | int | list | divmod | sorted | dict
  deriving DecidableEq
inductive Mt | append | extend | pop | join | split | partition | index | remove
  deriving DecidableEq
inductive T3 | name (i : Nat) | tup (is : List Nat)
mutual
inductive E3
  | var (i : Nat)
  | int (i : Int)
  | str (x : Str)
  | bl (b : Bool)
  | non
  | glob (i : Nat)
  | bin (o : Bo) (a b : E3)
  | neg (a : E3)
  | cmp (o : Co) (a b : E3)
  | cmp2 (o o' : Co) (a b c : E3)
  | cmp3 (o o' o'' : Co) (a b c d : E3)
  | and (es : Es3)
  | or (es : Es3)
  | not (a : E3)
  | ite (c a b : E3)
  | lst (es : Es3)
  | tup (es : Es3)
  | dic (t : Bool)
  | ix (a i : E3)
  | sl (a : E3) (lo hi : O3)
  | call (f : Nat) (es : Es3)
  | prim (p : Pr) (es : Es3)
  | meth (m : Mt) (o : E3) (es : Es3)
  | isi (a : E3) (T : String)
  | isx (i : Nat) (y : Str) (row : List Bool)
  | isxs (i : Nat) (ys : List (Str × List Bool))
  | lc (elt : E3) (tg : T3) (it : I3) (c : O3) (own : List Nat)
  | lcK (elt : E3) (tg : T3) (it : I3) (c : O3) (own : List Nat)
  | dget1 (o e : E3)
  | dget2 (o e d : E3)
  | dsetd (o e d : E3)
  | dpop1 (o e : E3)
  | dpop2 (o e d : E3)
  | dic1 (k v : E3)
  | dic2 (k v k2 v2 : E3)
  | lrev (e : E3)
  | lset (e : E3)
  | mxd (mn : Bool) (e d : E3)
  | sset (e : E3)
  | frz (e : E3)
  | attr (o : E3) (f : Str)
  | mcall (o : E3) (m : Str) (es : Es3)
  | new (c f : Nat) (es : Es3)
  | fmt (e : E3)
  | nev
  | ccall (c f : Nat) (m : Str) (es : Es3)
  | isc (a : E3) (y : Str) (row : List Bool)
  | fstr (es : Es3)
  | xattr (i : Nat) (f : Str)
  | hcall (f : Nat) (es : Es3)
inductive Es3
  | nil
  | cons (e : E3) (es : Es3)
inductive O3
  | none
  | some (e : E3)
inductive I3
  | seq (e : E3)
  | rng1 (a : E3)
  | rng2 (a b : E3)
  | rng3 (a b c : E3)
  | str (e : E3)
  | rev (e : E3)
  | enum (e : E3)
  | zip (a b : E3)
  | keys (e : E3)
  | items (e : E3)
end
mutual
inductive S3
  | expr (e : E3)
  | ret (e : E3)
  | retN
  | set (i : Nat) (e : E3)
  | setT (is : List Nat) (e : E3)
  | par (i j : Nat) (a b : E3)
  | put (o i e : E3)
  | ifS (c : E3) (a b : Ss3)
  | for_ (tg : T3) (it : I3) (body : Ss3)
  | forK (tg : T3) (it : I3) (body : Ss3)
  | while_ (c : E3) (body : Ss3)
  | brk
  | cont
  | pass
  | raise_ (c : Nat)
  | try_ (body : Ss3) (y : Str) (row : List Bool) (nm : Option Nat) (suite : Ss3) (els : Ss3)
  | never
  | seta (o : E3) (f : Str) (e : E3)
  | fz (i : Nat) (st : S3)
  | raiseF (c : Nat) (f : Str) (e : E3)
inductive Ss3
  | nil
  | cons (s : S3) (ss : Ss3)
end
def setAll {α : Type} : List Nat → List α → List (Option α) → List (Option α)
  | i :: is, x :: xs, s => setAll is xs (s.set i (some x))
  | _, _, s => s
def asg (t : T3) (w : W) (s : Sx) (g : G) (k : Sx → Prop) : Prop := match t with
  | .name i => k (s.set i (some w))
  | .tup is => seqAt g w fun xs => xs.length = is.length ∧ k (setAll is xs s)
def wipe3 (s : Sx) : List Nat → Sx
  | [] => s
  | v :: vs => (wipe3 s vs).set v none
def boS : Bo → W → W → G → VK3 → Prop
  | .add => addS | .sub => subS | .mul => mulS | .fdiv => fdivS | .mod => modS | .pow => powS
def coS : Co → W → W → G → VK3 → Prop
  | .eq => eqS false | .ne => eqS true | .lt => ltS | .le => leS | .gt => gtS | .ge => geS | .is => isS false | .isnot => isS true | .in_ => inS false | .notin => inS true | .deq => deqS false | .dne => deqS true
def prS : Pr → List W → G → VK3 → Prop
  | .len => lenS | .abs => absS | .str => strS | .max => maxS | .min => minS | .sum => sumS | .all => allS false | .any => allS true | .int => intS | .list => listS | .divmod => divmodS | .sorted => sortedS3 | .dict => dictS
def mtT : Mt → W → G → Prop
  | .append => isLst | .extend => isLst | .pop => isLst | .join => isStr | .split => isStr | .partition => isStr | .index => isLst | .remove => isLst
def mtS : Mt → W → List W → G → VK3 → Prop
  | .append => appendS | .extend => extendS | .pop => popS | .join => joinS | .split => splitS | .partition => partitionS | .index => indexS | .remove => removeS
abbrev CF3 := Nat → List W → G → XK3 → VK3 → Prop
def lcI (tg : T3) (ok : G → Prop) (tt : Sx → G → (Bool → G → Prop) → Prop) (te : Sx → G → VK3 → Prop) (s : Sx) (q : VK3) : List W → List W → G → Prop
  | [], acc, g => ok g ∧ newL g acc q
  | x :: xs, acc, g => ok g ∧ asg tg x s g fun s2 => tt s2 g fun b g3 =>
      if b = true then te s2 g3 fun y g4 => acc.length < sizeLine ∧ lcI tg ok tt te s q xs (acc ++ [y]) g4 else lcI tg ok tt te s q xs acc g3
def forI (tg : T3) (ok : G → Prop) (tb : TS3) (D : Ends3) : List W → Sx → G → Prop
  | [], s, g => ok g ∧ D.nx s g
  | x :: xs, s, g => ok g ∧ asg tg x s g fun s2 => tb { nx := forI tg ok tb D xs, ct := forI tg ok tb D xs, bk := D.nx, rt := D.rt, ex := D.ex } s2 g
def bT (t : TE3) : TT3 := fun x s g q => t x s g fun w g1 => ∃ b, w = .bl b ∧ q b g1
def eIf (tc : TT3) (ta tb : TE3) : TE3 := fun x s g q => tc x s g fun b g1 => if b = true then ta x s g1 q else tb x s g1 q
def eTup (ta : TA3) : TE3 := fun x s g q => ta x s g fun ws g1 => ws.length ≤ sizeLine ∧ q (.tup ws) g1
def eLst (ta : TA3) : TE3 := fun x s g q => ta x s g fun ws g1 => ws.length ≤ sizeLine ∧ newL g1 ws q
def eDic (t : Bool) : TE3 := fun _ _ g q => ∀ p, g p = none → q (.ref p) (gup g p (if t then .dit false [] else .dic false []))
abbrev TO3 := XK3 → Sx → G → (Option Int → G → Prop) → Prop
def eSl (ta : TE3) (tl th : TO3) : TE3 := fun x s g q => ta x s g fun a g1 => tl x s g1 fun lo g2 => th x s g2 fun hi g3 => slS a lo hi g3 q
abbrev TI3 := XK3 → Sx → G → (List W → (G → Prop) → G → Prop) → Prop
def walkS (w : W) (g : G) (r : List W → (G → Prop) → G → Prop) : Prop := match w with
  | .ref a => lstAt g a fun xs => r xs (fun g' => g' a = some (.lst xs)) g
  | .tup xs => r xs (fun _ => True) g
  | .scr xs => r xs (fun _ => True) g
  | .lv xs => r xs (fun _ => True) g
  | _ => False
def walkL (w : W) (g : G) (r : List W → (G → Prop) → G → Prop) : Prop := match w with
  | .ref a => lstAt g a fun xs => r xs (fun g' => g' a = some (.lst xs)) g
  | .scr xs => r xs (fun _ => True) g
  | .lv xs => r xs (fun _ => True) g
  | _ => False
def rngW (lo : Int) (n : Nat) : List W := (List.range n).map fun k => .int (lo + (k : Nat))
def rngDW (lo : Int) (n : Nat) : List W := (List.range n).map fun k => .int (lo + (k : Nat) * (-1))
def small62 (i : Int) : Prop := -(2 ^ 62) ≤ i ∧ i < 2 ^ 62
def enumW (xs : List W) : List W := xs.zipIdx.map fun p => .tup [.int ((p.2 : Nat) : Int), p.1]
def zipW (xs ys : List W) : List W := (xs.zip ys).map fun p => .tup [p.1, p.2]
def revS (w : W) (g : G) (q : VK3) : Prop := match w with
  | .ref a => lstAt g a fun xs => newL g xs.reverse q
  | .scr xs => newL g xs.reverse q
  | .lv xs => newL g xs.reverse q
  | _ => False
def keysS (w : W) (g : G) (r : List W → (G → Prop) → G → Prop) : Prop := match w with
  | .ref a => match g a with
    | some (.dic _ kvs) => r (kvs.map fun p => kW p.1) (fun g' => g' a = some (.dic true kvs)) (gup g a (.dic true kvs))
    | some (.dit _ kvs) => r (kvs.map fun p => ktW p.1) (fun g' => g' a = some (.dit true kvs)) (gup g a (.dit true kvs))
    | _ => False
  | _ => False
def itemsS (w : W) (g : G) (r : List W → (G → Prop) → G → Prop) : Prop := match w with
  | .ref a => match g a with
    | some (.dic _ kvs) => r (kvs.map fun p => .tup [kW p.1, p.2]) (fun g' => g' a = some (.dic true kvs)) (gup g a (.dic true kvs))
    | _ => False
  | _ => False
def lkd (g : G) (a : Addr) : Prop := (∃ kvs, g a = some (.dic true kvs)) ∨ ∃ kvs, g a = some (.dit true kvs)
def unl (g : G) (a : Addr) : G := match g a with
  | some (.dic true kvs) => gup g a (.dic false kvs)
  | some (.dit true kvs) => gup g a (.dit false kvs)
  | _ => g
def un (g0 : G) (P : G → Prop) (g : G) : Prop := P g ∨ ∃ a, ¬ lkd g0 a ∧ lkd g a ∧ P (unl g a)
def unD (g0 : G) (D : Ends3) : Ends3 := { nx := fun s g => un g0 (D.nx s) g, rt := fun v g => un g0 (D.rt v) g, bk := fun s g => un g0 (D.bk s) g, ct := fun s g => un g0 (D.ct s) g, ex := D.ex }
structure Gs where
  v : Nat → W
  su : Option (Addr × Nat × Option Addr)
  ocs : List OC3 := []
def frzS (w : W) (g : G) (q : VK3) : Prop := match w with
  | .ref a => match g a with
    | some (.lst xs) => q (.lv xs) (gdel g a)
    | _ => q w g
  | w => q w g
def frzI (i : Nat) (s : Sx) (g : G) (k : Sx → G → Prop) : Prop := match s[i]? with
  | some (some (.ref a)) => match g a with
    | some (.lst xs) => k (s.set i (some (.lv xs))) (gdel g a)
    | _ => k s g
  | _ => k s g
def attrS (f : Str) (a : W) (g : G) (q : VK3) : Prop := match a with
  | .ref p => match g p with
    | some (.ins _ fs) => match fs.lookup f with
      | some v => q v g
      | none => False
    | _ => False
  | _ => False
def setaS (f : Str) (a v : W) (g : G) (k : G → Prop) : Prop := match a with
  | .ref p => match g p with
    | some (.ins c fs) => fs.length < 1000 ∧ k (gup g p (.ins c (putG f v fs)))
    | _ => False
  | _ => False
def iscS (row : List Bool) (a : W) (g : G) (q : VK3) : Prop := match a with
  | .ref p => match g p with
    | some (.ins c _) => ∃ b, row[c]? = some b ∧ q (.bl b) g
    | _ => False
  | _ => False
def mnum (ocs : List OC3) (c : Nat) (m : Str) : Option Nat := (ocs[c]?).bind fun oc => oc.meths.lookup m
def mcS (ocs : List OC3) (m : Str) (a : W) (g : G) (k : Nat → Prop) : Prop := match a with
  | .ref p => match g p with
    | some (.ins c _) => ∃ f, mnum ocs c m = some f ∧ k f
    | _ => False
  | _ => False
def fmtS (w : W) (g : G) (q : VK3) : Prop := match w with
  | .str y => y.length ≤ sizeLine ∧ q (.str y) g
  | .int i => i.natAbs.log2 < 1920 ∧ q (.str (toString i)) g
  | _ => False
def eIsx (gl : Gs) (i : Nat) (row : List Bool) : TE3 := fun _ s g q => ∃ a c d b, gl.su = some (a, c, d) ∧ s[i]? = some (some (.exc a c d)) ∧ (∀ dd, d = some dd → ∃ fs, g dd = some (.xd fs)) ∧ row[c]? = some b ∧ q (.bl b) g
def anyR : List (Str × List Bool) → Nat → Option Bool
  | [], _ => some false
  | y :: ys, c => match y.2[c]? with
    | none => none
    | some true => some true
    | some false => anyR ys c
def eIsxs (gl : Gs) (i : Nat) (ys : List (Str × List Bool)) : TE3 := fun _ s g q => ∃ a c d b, gl.su = some (a, c, d) ∧ s[i]? = some (some (.exc a c d)) ∧ (∀ dd, d = some dd → ∃ fs, g dd = some (.xd fs)) ∧ anyR ys c = some b ∧ q (.bl b) g
def eXat (gl : Gs) (i : Nat) (f : Str) : TE3 := fun _ s g q => ∃ a c dd fs w, gl.su = some (a, c, some dd) ∧ s[i]? = some (some (.exc a c (some dd))) ∧ g dd = some (.xd fs) ∧ fs.lookup f = some w ∧ q w g
def suR (fs : List (Str × W)) (k : Option Addr → G → Prop) (g : G) : Prop := match fs with
  | [] => k none g
  | f :: fs => ∀ dd, (∀ o, g dd = some o → ∃ l, o = .xd l) → k (some dd) (gup g dd (.xd (f :: fs)))
def unN (nm : Option Nat) (s : Sx) : Sx := match nm with
  | some i => s.set i none
  | none => s
def enN (nm : Option Nat) (a : Addr) (c : Nat) (d : Option Addr) (s : Sx) : Sx := match nm with
  | some i => s.set i (some (.exc a c d))
  | none => s
def suD (nm : Option Nat) (D : Ends3) : Ends3 := { nx := fun s g => D.nx (unN nm s) g, rt := D.rt, bk := fun s g => D.bk (unN nm s) g, ct := fun s g => D.ct (unN nm s) g, ex := fun _ _ _ _ => False }
section
variable (CF : CF3) (gl : Gs)
mutual
def ev : E3 → TE3
  | .var i => eVar i
  | .int i => eC (.int i)
  | .str x => eC (.str x)
  | .bl b => eC (.bl b)
  | .non => eC .non
  | .glob i => eC (gl.v i)
  | .bin o a b => e2 (boS o) (ev a) (ev b)
  | .neg a => e1 negS (ev a)
  | .cmp o a b => e2 (coS o) (ev a) (ev b)
  | .cmp2 o o' a b c => fun x s g q => ev a x s g fun u g1 => ev b x s g1 fun v g2 => coS o u v g2 fun z g3 => ∃ k, z = .bl k ∧ (if k = true then ev c x s g3 fun w g4 => coS o' v w g4 q else q (.bl false) g3)
  | .cmp3 o o' o'' a b c d => fun x s g q => ev a x s g fun u g1 => ev b x s g1 fun v g2 => coS o u v g2 fun z g3 => ∃ k, z = .bl k ∧ (if k = true then ev c x s g3 fun w g4 => coS o' v w g4 fun z2 g5 => ∃ k2, z2 = .bl k2 ∧
      (if k2 = true then ev d x s g5 fun y g6 => coS o'' w y g6 q else q (.bl false) g5) else q (.bl false) g3)
  | .and es => evAnd es
  | .or es => evOr es
  | .not a => fun x s g q => ev a x s g fun u g1 => ∃ b, u = .bl b ∧ q (.bl (!b)) g1
  | .ite c a b => eIf (bT (ev c)) (ev a) (ev b)
  | .lst es => eLst (evs es)
  | .tup es => eTup (evs es)
  | .dic t => eDic t
  | .ix a i => e2 ixS (ev a) (ev i)
  | .sl a lo hi => eSl (ev a) (evo lo) (evo hi)
  | .call f es => fun x s g q => evs es x s g fun ws g1 => CF f ws g1 x q
  | .prim p es => eL (prS p) (evs es)
  | .meth m o es => eM (mtS m) (mtT m) (ev o) (evs es)
  | .isi a T => e1 (isiS T) (ev a)
  | .isx i _ row => eIsx gl i row
  | .isxs i ys => eIsxs gl i ys
  | .lc elt tg it c own => fun x s g q => evi it x s g fun items ok g1 => lcI tg ok (fun s2 g2 k => evc c (fun _ _ _ => False) s2 g2 k) (fun s2 g2 k => ev elt (fun _ _ _ => False) s2 g2 k) (wipe3 s own) q items [] g1
  | .lcK elt tg it c own => fun x s g q => evi it x s g fun items ok g1 => lcI tg ok (fun s2 g2 k => evc c (fun _ _ _ => False) s2 g2 k) (fun s2 g2 k => ev elt (fun _ _ _ => False) s2 g2 k) (wipe3 s own) (fun w g' => un g (q w) g') items [] g1
  | .dget1 o e => fun x s g q => ev o x s g fun a g1 => isDic a g1 ∧ ev e x s g1 fun y g2 => dgetS a y .non g2 q
  | .dget2 o e d => fun x s g q => ev o x s g fun a g1 => isDic a g1 ∧ ev e x s g1 fun y g2 => ev d x s g2 fun z g3 => dgetS a y z g3 q
  | .dsetd o e d => fun x s g q => ev o x s g fun a g1 => isDic a g1 ∧ ev e x s g1 fun y g2 => ev d x s g2 fun z g3 => setdS a y z g3 q
  | .dpop1 o e => fun x s g q => ev o x s g fun a g1 => isDic a g1 ∧ ev e x s g1 fun y g2 => dpopS a y g2 q
  | .dpop2 o e d => fun x s g q => ev o x s g fun a g1 => isDic a g1 ∧ ev e x s g1 fun y g2 => ev d x s g2 fun z g3 => dpop2S a y z g3 q
  | .dic1 k v => fun x s g q => ∀ p, g p = none → ev k x s (gup g p (.dic false [])) fun y g1 => ev v x s g1 fun z g2 => g2 p = some (.dic false []) ∧ ∃ c, toKey y = some c ∧ q (.ref p) (gup g2 p (.dic false [(c, z)]))
  | .dic2 k v k2 v2 => fun x s g q => ∀ p, g p = none → ev k x s (gup g p (.dic false [])) fun y g1 => ev v x s g1 fun z g2 => ev k2 x s g2 fun y2 g3 => ev v2 x s g3 fun z2 g4 => g4 p = some (.dic false []) ∧ ∃ c c2, toKey y = some c ∧ toKey y2 = some c2 ∧ c ≠ c2 ∧ q (.ref p) (gup g4 p (.dic false [(c, z), (c2, z2)]))
  | .lrev e => fun x s g q => ev e x s g fun w g1 => revS w g1 q
  | .lset e => fun x s g q => ev e x s g fun w g1 => lsetS w g1 q
  | .mxd mn e d => fun x s g q => ev e x s g fun w g1 => ev d x s g1 fun z g2 => mxdS mn w z g2 q
  | .sset e => fun x s g q => ev e x s g fun w g1 => ssetS w g1 q
  | .frz e => fun x s g q => ev e x s g fun w g1 => frzS w g1 q
  | .attr o f => fun x s g q => ev o x s g fun a g1 => attrS f a g1 q
  | .mcall o m es => fun x s g q => ev o x s g fun a g1 => mcS gl.ocs m a g1 fun f => evs es x s g1 fun ws g2 => CF f (a :: ws) g2 x q
  | .new c f es => fun x s g q => evs es x s g fun ws g1 => ∀ p, g1 p = none → CF f (.ref p :: ws) (gup g1 p (.ins c [])) x fun v g2 => v = .non ∧ q (.ref p) g2
  | .fmt e => fun x s g q => ev e x s g fun w g1 => fmtS w g1 q
  | .nev => fun _ _ _ _ => False
  | .ccall _ f _ es => fun x s g q => evs es x s g fun ws g1 => CF f ws g1 x q
  | .isc a _ row => fun x s g q => ev a x s g fun w g1 => iscS row w g1 q
  | .fstr es => fun x s g q => evf es Str.empty x s g q
  | .xattr i f => eXat gl i f
  | .hcall f es => fun x s g q => ∃ a c d, gl.su = some (a, c, d) ∧ evs es x s g fun ws g1 => CF f (.exc a c d :: ws) g1 x q
def evs : Es3 → TA3
  | .nil => aNil
  | .cons e es => aCons (ev e) (evs es)
def evAnd : Es3 → TE3
  | .nil => fun _ _ _ _ => False
  | .cons a .nil => ev a
  | .cons a es => fun x s g q => ev a x s g fun u g1 => ∃ b, u = .bl b ∧ if b = true then evAnd es x s g1 q else q (.bl false) g1
def evOr : Es3 → TE3
  | .nil => fun _ _ _ _ => False
  | .cons a .nil => ev a
  | .cons a es => fun x s g q => ev a x s g fun u g1 => ∃ b, u = .bl b ∧ if b = true then q (.bl true) g1 else evOr es x s g1 q
def evf : Es3 → Str → TE3
  | .nil, acc => fun _ _ g q => q (.str acc) g
  | .cons e es, acc => fun x s g q => ev e x s g fun w g1 => ∃ y, w = .str y ∧ (acc ++ y).length ≤ sizeLine ∧ evf es (acc ++ y) x s g1 q
def evo : O3 → TO3
  | .none => fun _ _ g q => q none g
  | .some e => fun x s g q => ev e x s g fun w g1 => ∃ i, w = .int i ∧ q (some i) g1
def evc : O3 → TT3
  | .none => fun _ _ g q => q true g
  | .some e => bT (ev e)
def evi : I3 → TI3
  | .seq e => fun x s g r => ev e x s g fun w g1 => walkS w g1 r
  | .rng1 a => fun x s g r => ev a x s g fun w g1 => ∃ j, w = .int j ∧ small62 j ∧ r (rngW 0 j.toNat) (fun _ => True) g1
  | .rng2 a b => fun x s g r => ev a x s g fun w g1 => ev b x s g1 fun w' g2 => ∃ i j, w = .int i ∧ w' = .int j ∧ small62 i ∧ small62 j ∧ r (rngW i (j - i).toNat) (fun _ => True) g2
  | .rng3 a b c => fun x s g r => ev a x s g fun w g1 => ev b x s g1 fun w' g2 => ev c x s g2 fun w'' g3 => ∃ i j, w = .int i ∧ w' = .int j ∧ w'' = .int (-1) ∧ small62 i ∧ small62 j ∧ r (rngDW i (i - j).toNat) (fun _ => True) g3
  | .str e => fun x s g r => ev e x s g fun w g1 => ∃ z, w = .str z ∧ r (z.cps.toList.map fun c => .str ⟨#[c]⟩) (fun _ => True) g1
  | .rev e => fun x s g r => ev e x s g fun w g1 => walkS w g1 fun xs ok g2 => r xs.reverse ok g2
  | .enum e => fun x s g r => ev e x s g fun w g1 => walkL w g1 fun xs ok g2 => r (enumW xs) ok g2
  | .keys e => fun x s g r => ev e x s g fun w g1 => keysS w g1 r
  | .items e => fun x s g r => ev e x s g fun w g1 => itemsS w g1 r
  | .zip a b => fun x s g r => ev a x s g fun w g1 => ev b x s g1 fun w' g2 => walkL w g2 fun xs ok _ => walkL w' g2 fun ys ok' _ => r (zipW xs ys) (fun g3 => ok g3 ∧ ok' g3) g2
end
end
section
variable (CF : CF3)
mutual
def sv : Gs → S3 → TS3
  | gl, .expr e => fun D s g => ev CF gl e (D.xk s) s g fun _ g1 => D.nx s g1
  | gl, .ret e => fun D s g => ev CF gl e (D.xk s) s g D.rt
  | gl, .retN => fun D _ g => D.rt .non g
  | gl, .set i e => fun D s g => ev CF gl e (D.xk s) s g fun w g1 => D.nx (s.set i (some w)) g1
  | gl, .setT is e => fun D s g => ev CF gl e (D.xk s) s g fun w g1 => asg (.tup is) w s g1 fun s2 => D.nx s2 g1
  | gl, .par i j a b => fun D s g => ev CF gl a (D.xk s) s g fun w g1 => ev CF gl b (D.xk s) s g1 fun w' g2 => D.nx ((s.set i (some w)).set j (some w')) g2
  | gl, .put o i e => fun D s g => ev CF gl e (D.xk s) s g fun v g1 => ev CF gl o (D.xk s) s g1 fun a g2 => ev CF gl i (D.xk s) s g2 fun y g3 => putS a y v g3 fun g4 => D.nx s g4
  | gl, .ifS c a b => fun D s g => bT (ev CF gl c) (D.xk s) s g fun k g1 => if k = true then svs gl a D s g1 else svs gl b D s g1
  | gl, .for_ tg it body => fun D s g => evi CF gl it (D.xk s) s g fun items ok g1 => forI tg ok (svs gl body) D items s g1
  | gl, .forK tg it body => fun D s g => evi CF gl it (D.xk s) s g fun items ok g1 => forI tg ok (svs gl body) (unD g D) items s g1
  | gl, .while_ c body => fun D s g => ∃ M : Nat → Sx → G → Prop, (∃ m, M m s g) ∧ ∀ m s g, M m s g → bT (ev CF gl c) (D.xk s) s g fun b g1 =>
      if b = true then svs gl body { D with nx := fun s' g' => ∃ m', m' < m ∧ M m' s' g', ct := fun s' g' => ∃ m', m' < m ∧ M m' s' g', bk := D.nx } s g1 else D.nx s g1
  | gl, .brk => fun D s g => D.bk s g
  | gl, .cont => fun D s g => D.ct s g
  | gl, .pass => fun D s g => D.nx s g
  | gl, .raise_ c => fun D s g => D.ex c [] s g
  | gl, .try_ body _ row nm suite els => fun D s g => svs gl body { D with
      nx := svs gl els D
      ex := fun c fs s' g' => ∃ b, row[c]? = some b ∧ if b = true then ∀ a, g' a = none → suR fs (fun d g2 => svs { gl with su := some (a, c, d) } suite (suD nm D) (enN nm a c d s') g2) g' else D.ex c fs s' g' } s g
  | gl, .never => fun _ _ _ => False
  | gl, .seta o f e => fun D s g => ev CF gl e (D.xk s) s g fun v g1 => ev CF gl o (D.xk s) s g1 fun a g2 => setaS f a v g2 fun g3 => D.nx s g3
  | gl, .fz i st => fun D s g => sv gl st { D with nx := fun s' g' => frzI i s' g' D.nx } s g
  | gl, .raiseF c f e => fun D s g => ev CF gl e (D.xk s) s g fun w g1 => D.ex c [(f, w)] s g1
def svs : Gs → Ss3 → TS3
  | gl, .nil => fun D s g => D.nx s g
  | gl, .cons s ss => fun D σ g => sv gl s { D with nx := svs gl ss D } σ g
end
end
structure FD3 where
  name : Str
  gn : Str := name
  glob : Bool := true
  params : List Str
  dflt : List W
  slots : List Str
  body : Ss3
  hot : Bool := false
def rtS (g0 : G) (q : VK3) (w : W) (g : G) : Prop := q w g ∨ (Ext g0 g ∧ q w g0)
def exS (g0 : G) (x : XK3) (c : Nat) (fs : List (Str × W)) (g : G) : Prop := x c fs g ∨ (Ext g0 g ∧ x c fs g0)
def callF (P : List FD3) (gl : Gs) : Nat → CF3
  | 0, _, _, _, _, _ => False
  | n + 1, f, ws, g, x, q => match P[f]? with
    | some d => match d.hot with
      | true => match ws with
        | .exc a c dd :: ws' => ws'.length = d.params.length ∧
          svs (callF P gl n) { gl with su := some (a, c, dd) } d.body { nx := fun _ g1 => rtS g q .non g1, rt := rtS g q, bk := fun _ _ => False, ct := fun _ _ => False, ex := fun _ _ _ _ => False }
            (ws'.map some ++ List.replicate (d.slots.length - d.params.length) none) g
        | _ => False
      | false => (ws ++ d.dflt.drop (d.dflt.length + ws.length - d.params.length)).length = d.params.length ∧
        svs (callF P gl n) gl d.body { nx := fun _ g1 => rtS g q .non g1, rt := rtS g q, bk := fun _ _ => False, ct := fun _ _ => False, ex := fun c fs _ g1 => exS g x c fs g1 }
          ((ws ++ d.dflt.drop (d.dflt.length + ws.length - d.params.length)).map some ++ List.replicate (d.slots.length - d.params.length) none) g
    | none => False
end L3
set_option maxRecDepth 100000
set_option maxHeartbeats 4000000
namespace L3
open PySem PySem.Spec L2 PyProof.Rows PySem.W
def RU (K : PySem.W.Frag) (H : Hp) (v : Value) (x : W) : Prop := ∃ u, RelV u v ∧ RV K H x u
section
variable {X : Cx} {E : Env3} {pins : List (Addr × Obj)} {σ : L2.St} {H : Hp} {s : Shared} {g : G}
theorem each_ru {K : PySem.W.Frag} : ∀ {xs : List W} {ys : List V} {vs : List Value}, RVs K H xs ys → Vals ys vs → PySem.W.EachIs (RU K H) vs xs
  | [], _, _, r, v => by rw [r.nil_inv] at v; cases v; exact .nil
  | x :: xs, _, _, r, v => by
    obtain ⟨u, r', rfl, h1, h2⟩ := r.cons_inv
    cases v with
    | cons a b => exact .cons ⟨u, a, h1⟩ (each_ru h2 b)
theorem ru_each {K : PySem.W.Frag} : ∀ {xs : List W} {vs : List Value}, PySem.W.EachIs (RU K H) vs xs → ∃ ys, RVs K H xs ys ∧ Vals ys vs
  | _, _, .nil => ⟨[], .nil, .nil⟩
  | _, _, .cons ⟨u, a, h1⟩ r => let ⟨ys, q1, q2⟩ := ru_each r; ⟨u :: ys, .cons h1 q1, .cons a q2⟩
theorem ru_reads (I : Inv X pins σ H s) (hK : X.K = E.K) (hg : GR E g H) {x : W} {v : Value} {d : PyData} (h : RU E.K H v x) (r : DW g x d) : ∃ as, Reads s.heap v d as := by
  obtain ⟨u, a, b⟩ := h
  exact Dp.reads I d u v (by rw [hK]; exact dp_of hg r b) a
theorem ru_all (I : Inv X pins σ H s) (hK : X.K = E.K) (hg : GR E g H) {enc : W → PyData} : ∀ {xs : List W} {vs : List Value}, PySem.W.EachIs (RU E.K H) vs xs → (∀ x ∈ xs, DW g x (enc x)) → PySem.W.EachIs (fun v b => ∃ as, Reads s.heap v (enc b) as) vs xs
  | _, _, .nil, _ => .nil
  | _, _, .cons a r, h => .cons (ru_reads I hK hg a (h _ List.mem_cons_self)) (ru_all I hK hg r fun x hx => h x (List.mem_cons_of_mem _ hx))
theorem sort_lst {Q : VK} {q : VK3} (hK : X.K = E.K) (hu : X.A.units + 70 < cLine) (I : Inv X pins σ H s) (hg : GR E g H) {a : Addr} {xs : List W} {ys : List V} (hs : SqL X.K H a ys) (r : RVs E.K H xs ys) (h : sortL xs g q) (kq : KQ E g H q Q) :
    wpAny (model X.prog X.w) X.A (call (.builtin "sorted") [.ref a]) (EP X pins σ Q) X.xe s := by
  obtain ⟨enc, h1, h2, h3, h4, h5⟩ := h
  obtain ⟨its, rv, hl, hz⟩ := I.list hs
  have e := each_ru r rv
  have hlen : xs.length ≤ sizeLine := by rw [← r.length]; exact hz
  refine PySem.W.sorted_data hl.isList e (ru_all I hK hg e h1) h2 h3 hlen (fun b hb => by have := h4 b hb; omega) fun out ho eo => ?_
  obtain ⟨zs, q1, q2⟩ := ru_each eo
  obtain ⟨ep, he'⟩ := PyProof.Rows.sortedAll_at s.heap its out.toArray
  have hl2 : zs.length ≤ sizeLine := by rw [q1.length, List.length_mergeSort]; exact hlen
  exact ⟨.ref _, upd H (s.heap.objs.size + 1) (.lst zs), I.laid (t' := s.toks) (fun _ _ => PyProof.Rows.sortedAll_old) (Nat.le_succ _) ⟨hl2, out, ep, q2, he'⟩, rfl, new_lst hg (I.hok.fresh (Nat.le_succ _)) q1 h5 kq⟩
theorem kw_each {knd : KeyKind X.prog X.w Key} (hk : ∀ {k : Key} {v : Value}, knd.is k v = true → RelV (kV k) v) : ∀ {ks : List Key} {vs : List Value}, ks.length = vs.length → (∀ (j : Nat) (v : Value), vs[j]? = some v → ∃ k, ks[j]? = some k ∧ knd.is k v = true) → PySem.W.EachIs (RU E.K H) vs (ks.map kW)
  | [], [], _, _ => .nil
  | k :: ks, v :: vs, n, h => by
    obtain ⟨k', e1, e2⟩ := h 0 v rfl
    cases e1
    refine .cons ⟨kV k, hk e2, by cases k <;> simp [kW, kV, RV]⟩ (kw_each hk (by simpa using n) fun j v e => ?_)
    obtain ⟨k', e1, e2⟩ := h (j + 1) v (by simpa using e)
    exact ⟨k', by simpa using e1, e2⟩
  | [], _ :: _, n, _ => by simp at n
  | _ :: _, [], n, _ => by simp at n
theorem sort_dic {Q : VK} {q : VK3} (hK : X.K = E.K) (hc : X.calm = true) (hu : X.A.units + 70 < cLine) (I : Inv X pins σ H s) (hg : GR E g H) {a : Addr} {kvs : List (Key × W)} {l : List (Key × V)} (hd : Rd H a (.dK l)) (hks : kvs.map (·.1) = l.map (·.1))
    (h : sortL (kvs.map fun p => kW p.1) g q) (kq : KQ E g H q Q) :
    wpAny (model X.prog X.w) X.A (call (.builtin "sorted") [.ref a]) (EP X pins σ Q) X.xe s := by
  obtain ⟨enc, h1, h2, h3, h4, h5⟩ := h
  obtain ⟨z, lo, vs, rel, dd⟩ := dk_rd I.hok hd
  obtain ⟨ep, hat⟩ := dd.dictAt
  have hkeys : vs.map (·.1) = kvs.map (·.1) := rel.keys.symm.trans hks.symm
  have hl : vs.length = kvs.length := by simpa using congrArg List.length hkeys
  have h16 : vs.length ≤ sizeLine := by rw [← rel.length]; exact z
  refine Calls.call_function_entry PyProof.Rows.kind_sorted PyProof.Rows.plain_sorted PyProof.Rows.entry_sorted (PyProof.Rows.args_sorted1 _) ?_
  unfold Builtin.«sorted»
  refine wpAny_bind (m := checkCount "sorted" 1 1 _) (wpAny_pure ?_)
  refine wpAny_bind (PySem.W.kdu_collect (A := X.A.in1) (PySem.W.kdl_dict (knd := mixKind X.prog X.w) (kvs := vs) (ep := ep) lo) (I.ok.hd hc) hat h16 fun h' tk acc hk hacc => ?_)
  have hal : acc.toList.length = kvs.length := by rw [Array.length_toList, hacc.1, hl]
  have I1 : Inv X pins σ H { s with heap := h', toks := tk } := I.kept hk
  have eE : PySem.W.EachIs (RU E.K H) acc.toList (kvs.map fun p => kW p.1) := by
    have e1 : (kvs.map fun p => kW p.1) = (kvs.map (·.1)).map kW := by simp [Function.comp_def]
    rw [e1]
    refine kw_each (knd := mixKind X.prog X.w) (fun {k v} e => ?_) (by rw [List.length_map, hal]) fun j v e => ?_
    · rcases keyIs_shape e with ⟨i, t, ek, ev⟩ | ⟨z, t, ek, ev⟩
      · subst ek; exact ⟨t, ev⟩
      · subst ek; exact ⟨t, ev⟩
    · obtain ⟨k, x, f1, f2⟩ := hacc.2 j v (by rw [← Array.getElem?_toList]; exact e)
      have e3 : (vs.map (·.1))[j]? = some k := by rw [List.getElem?_map, f1]; all_goals rfl
      rw [hkeys] at e3
      exact ⟨k, e3, f2⟩
  refine wpAny_bind (wpAny_newList ?_ (by rw [hal, ← hl]; exact h16))
  have hoL : (h'.push (seqObj "list" acc.toList.toArray 0)).get? h'.objs.size = some (seqObj "list" acc.toList.toArray 0) := Heap.get?_push_size _ rfl
  show wpAny _ _ _ _ _ { s with heap := h'.push (seqObj "list" acc.toList.toArray 0), toks := tk }
  have er : PySem.W.EachIs (fun v b => ∃ as, Reads (sortingHeap (h'.push (seqObj "list" acc.toList.toArray 0)) h'.objs.size acc.toList) v (enc b) as) acc.toList (kvs.map fun p => kW p.1) :=
    (ru_all I1 hK hg eE h1).mono fun _ _ ⟨as, r⟩ => ⟨as, PyProof.Rows.Reads.keeps (fun b o e => by
      have hb : b < h'.objs.size := Heap.lt_size e
      exact sortingHeap_old (Nat.ne_of_lt hb) (Heap.get?_push_of_some _ e)) r⟩
  have S : PySem.W.SortsAt X.prog X.w X.A.in1.in1 { s with heap := sortingHeap (h'.push (seqObj "list" acc.toList.toArray 0)) h'.objs.size acc.toList, toks := tk } (PySem.W.dataKind (sortingHeap (h'.push (seqObj "list" acc.toList.toArray 0)) h'.objs.size acc.toList) ((kvs.map fun p => kW p.1).map enc)) acc.toList :=
    PySem.W.SortsAt.data (PySem.W.each_map (R := fun v d => ∃ as, Reads _ v d as) enc er) h2 h3 fun d hd => by
      obtain ⟨b, hb, rfl⟩ := List.mem_map.mp hd
      have := h4 b hb
      show X.A.units + 1 + 1 + _ < cLine
      omega
  have eo := PySem.W.sortVals_data false eE er h2
  obtain ⟨zs, q1, q2⟩ := ru_each eo
  have lz : zs.length ≤ sizeLine := by rw [q1.length, List.length_mergeSort, List.length_map, ← hl]; exact h16
  refine wpAny_bind (wpAny_holding (wpAny_call_entry PyProof.Rows.slot_list_sort ⟨_, hoL, rfl⟩ PyProof.Rows.entry_list_sort
    (PySem.W.list_sort_vals (s := { s with heap := h'.push (seqObj "list" acc.toList.toArray 0), toks := tk }) hoL S (by rw [hal, ← hl]; exact h16) ⟨_, rfl, ?_⟩)
    (PyProof.Rows.args_list_sort _)))
  obtain ⟨e', he'⟩ := PyProof.Rows.sortedHeap_at (vs := acc.toList) (out := (PySem.W.sortVals (PySem.W.dataKind (sortingHeap (h'.push (seqObj "list" acc.toList.toArray 0)) h'.objs.size acc.toList) ((kvs.map fun p => kW p.1).map enc)) false acc.toList acc.toList).toArray) hoL
  refine wpAny_pure ⟨_, rfl, .ref h'.objs.size, upd H h'.objs.size (.lst zs), I1.laid (t' := tk) (fun b u e => ?_) (Nat.le_refl _)
    (show ObjOk X.prog X.w _ _ _ (.lst zs) from ⟨lz, _, e', q2, he'⟩), rfl, new_lst hg (I1.hok.fresh (Nat.le_refl _)) q1 h5 kq⟩
  have hb : b < h'.objs.size := Heap.lt_size e
  rw [PyProof.Rows.sortedHeap_old (Nat.ne_of_lt hb) (by rw [size_push']; exact Nat.lt_succ_of_lt hb)]
  exact Heap.get?_push_of_some _ e
theorem rvs_kWk {K : PySem.W.Frag} {H : Hp} : ∀ ks : List Key, RVs K H (ks.map kW) (ks.map kV)
  | [] => .nil
  | k :: ks => .cons (by cases k <;> simp [kW, kV, RV]) (rvs_kWk ks)
theorem kt_each {K : PySem.W.Frag} {H : Hp} {l : List (List Key × V)} {bs : List Addr} (h : IsKeys H l bs) : ∀ {kvs : List (List Key × W)}, kvs.map (·.1) = l.map (·.1) → PySem.W.EachIs (RU K H) (bs.map Value.ref) (kvs.map fun p => ktW p.1) := by
  unfold IsKeys at h
  induction h with
  | nil => intro kvs e; rw [List.map_eq_nil_iff.mp e]; exact .nil
  | @cons p b _ _ hb _ ih =>
    intro kvs e
    cases kvs with
    | nil => cases e
    | cons q kvs =>
      injection e with e1 e2
      refine .cons ⟨.ref b, rfl, ?_⟩ (ih e2)
      have e1 : q.1 = p.1 := e1
      show RV K H (ktW q.1) (.ref b)
      rw [e1]
      exact rv_tup hb (rvs_kWk _)
theorem sort_dit {Q : VK} {q : VK3} (hK : X.K = E.K) (hc : X.calm = true) (hu : X.A.units + 70 < cLine) (I : Inv X pins σ H s) (hg : GR E g H) {a : Addr} {kvs : List (List Key × W)} {l : List (List Key × V)} (hd : Rd H a (.dT l)) (hks : kvs.map (·.1) = l.map (·.1))
    (h : sortL (kvs.map fun p => ktW p.1) g q) (kq : KQ E g H q Q) :
    wpAny (model X.prog X.w) X.A (call (.builtin "sorted") [.ref a]) (EP X pins σ Q) X.xe s := by
  obtain ⟨enc, h1, h2, h3, h4, h5⟩ := h
  obtain ⟨z, lo, ks, pr, o, es, ep, ho, hx, hdt, he, hn⟩ := (show ObjOk X.prog X.w H s.heap a (.dT l) from hd.ok I.hok)
  have l1 : es.size = ks.length := size_of_entries he
  have l2 : l.length = ks.length := Paired.length pr
  have l3 : kvs.length = l.length := by simpa using congrArg List.length hks
  have h16 : es.size ≤ sizeLine := by omega
  refine Calls.call_function_entry PyProof.Rows.kind_sorted PyProof.Rows.plain_sorted PyProof.Rows.entry_sorted (PyProof.Rows.args_sorted1 _) ?_
  unfold Builtin.«sorted»
  refine wpAny_bind (m := checkCount "sorted" 1 1 _) (wpAny_pure ?_)
  refine wpAny_bind (PySem.W.kdu_collect (A := X.A.in1) (kdl_raw lo hx hdt) (I.ok.hd hc) ho h16 fun h' tk acc hk hacc => ?_)
  have hal : acc.toList.length = kvs.length := by rw [Array.length_toList, hacc.1]; omega
  have I1 : Inv X pins σ H { s with heap := h', toks := tk } := I.kept hk
  have ea : acc.toList = (ks.map fun x => x.2.1).map Value.ref := by
    rw [List.map_map]
    refine List.ext_getElem? fun j => ?_
    rw [List.getElem?_map]
    cases hj : acc.toList[j]? with
    | none =>
      have := List.getElem?_eq_none_iff.mp hj
      rw [List.getElem?_eq_none (by omega)]
      all_goals rfl
    | some v =>
      obtain ⟨en, hen, hv⟩ := hacc.2 j v (by rw [← Array.getElem?_toList]; exact hj)
      have qe := entry_at he j
      rw [hen] at qe
      cases hb : ks[j]? with
      | none => rw [hb] at qe; exact nomatch (show some en = none from qe)
      | some b =>
        rw [hb] at qe
        have e2 : en = entryOfKey (tupleKind (mixKind X.prog X.w)) b := Option.some.inj qe
        rw [hv, e2]
        all_goals rfl
  have eE : PySem.W.EachIs (RU E.K H) acc.toList (kvs.map fun p => ktW p.1) := by
    rw [ea]
    exact kt_each (isKeys_of pr) hks
  refine wpAny_bind (wpAny_newList ?_ (by rw [hal]; omega))
  have hoL : (h'.push (seqObj "list" acc.toList.toArray 0)).get? h'.objs.size = some (seqObj "list" acc.toList.toArray 0) := Heap.get?_push_size _ rfl
  show wpAny _ _ _ _ _ { s with heap := h'.push (seqObj "list" acc.toList.toArray 0), toks := tk }
  have er : PySem.W.EachIs (fun v b => ∃ as, Reads (sortingHeap (h'.push (seqObj "list" acc.toList.toArray 0)) h'.objs.size acc.toList) v (enc b) as) acc.toList (kvs.map fun p => ktW p.1) :=
    (ru_all I1 hK hg eE h1).mono fun _ _ ⟨as, r⟩ => ⟨as, PyProof.Rows.Reads.keeps (fun b o e => by
      have hb : b < h'.objs.size := Heap.lt_size e
      exact sortingHeap_old (Nat.ne_of_lt hb) (Heap.get?_push_of_some _ e)) r⟩
  have S : PySem.W.SortsAt X.prog X.w X.A.in1.in1 { s with heap := sortingHeap (h'.push (seqObj "list" acc.toList.toArray 0)) h'.objs.size acc.toList, toks := tk } (PySem.W.dataKind (sortingHeap (h'.push (seqObj "list" acc.toList.toArray 0)) h'.objs.size acc.toList) ((kvs.map fun p => ktW p.1).map enc)) acc.toList :=
    PySem.W.SortsAt.data (PySem.W.each_map (R := fun v d => ∃ as, Reads _ v d as) enc er) h2 h3 fun d hd => by
      obtain ⟨b, hb, rfl⟩ := List.mem_map.mp hd
      have := h4 b hb
      show X.A.units + 1 + 1 + _ < cLine
      omega
  have eo := PySem.W.sortVals_data false eE er h2
  obtain ⟨zs, q1, q2⟩ := ru_each eo
  have lz : zs.length ≤ sizeLine := by rw [q1.length, List.length_mergeSort, List.length_map]; omega
  refine wpAny_bind (wpAny_holding (wpAny_call_entry PyProof.Rows.slot_list_sort ⟨_, hoL, rfl⟩ PyProof.Rows.entry_list_sort
    (PySem.W.list_sort_vals (s := { s with heap := h'.push (seqObj "list" acc.toList.toArray 0), toks := tk }) hoL S (by rw [hal]; omega) ⟨_, rfl, ?_⟩)
    (PyProof.Rows.args_list_sort _)))
  obtain ⟨e', he'⟩ := PyProof.Rows.sortedHeap_at (vs := acc.toList) (out := (PySem.W.sortVals (PySem.W.dataKind (sortingHeap (h'.push (seqObj "list" acc.toList.toArray 0)) h'.objs.size acc.toList) ((kvs.map fun p => ktW p.1).map enc)) false acc.toList acc.toList).toArray) hoL
  refine wpAny_pure ⟨_, rfl, .ref h'.objs.size, upd H h'.objs.size (.lst zs), I1.laid (t' := tk) (fun b u e => ?_) (Nat.le_refl _)
    (show ObjOk X.prog X.w _ _ _ (.lst zs) from ⟨lz, _, e', q2, he'⟩), rfl, new_lst hg (I1.hok.fresh (Nat.le_refl _)) q1 h5 kq⟩
  have hb : b < h'.objs.size := Heap.lt_size e
  rw [PyProof.Rows.sortedHeap_old (Nat.ne_of_lt hb) (by rw [size_push']; exact Nat.lt_succ_of_lt hb)]
  exact Heap.get?_push_of_some _ e
theorem l_sorted (hK : X.K = E.K) (hc : X.calm = true) (hu : X.A.units + 70 < cLine) : CallR X (.builtin "sorted") (liftL E sortedS3) := by
  intro pins s σ H vs us Q I r ⟨ws, g, q, hw, hg, h, kq⟩
  unfold sortedS3 at h
  split at h
  · rename_i a
    obtain ⟨v, rfl, hv⟩ := rvs1 hw
    simp only [RV] at hv; subst hv
    rw [Vals.ref1 r]
    split at h
    · rename_i xs eg
      obtain ⟨ys, f1, r1⟩ := hg _ _ eg
      exact sort_lst hK hu I hg (SqL.of f1) r1 h kq
    · rename_i lk kvs eg
      obtain ⟨l, hd, e1, e2⟩ := hg _ _ eg
      exact sort_dic hK hc hu I hg hd.rd e1 h kq
    · rename_i lk kvs eg
      obtain ⟨l, hd, e1, e2⟩ := hg _ _ eg
      exact sort_dit hK hc hu I hg hd.rd e1 h kq
    · exact h.elim
  · rename_i xs
    obtain ⟨v, rfl, hv⟩ := rvs1 hw
    obtain ⟨p, ys, rfl, ht, hr⟩ := rv_scr_inv hv
    rw [Vals.ref1 r]
    exact sort_lst hK hu I hg (by rw [hK]; exact ht.sq) hr h kq
  · rename_i xs
    obtain ⟨v, rfl, hv⟩ := rvs1 hw
    obtain ⟨p, ys, rfl, ht, hr⟩ := rv_lv_inv hv
    rw [Vals.ref1 r]
    exact sort_lst hK hu I hg (by rw [hK]; exact ht.sq) hr h kq
  · exact h.elim
theorem l_dict : CallR X (.type "dict") (liftL E dictS) := by
  intro pins s σ H vs us Q I r ⟨ws, g, q, hw, hg, h, kq⟩
  unfold dictS at h
  split at h
  · rename_i a
    obtain ⟨v, rfl, hv⟩ := rvs1 hw
    simp only [RV] at hv; subst hv
    split at h
    · rename_i lk kvs eg
      obtain ⟨l, hd, e1, e2⟩ := hg _ _ eg
      exact call_dictD pins s σ H _ us Q I r ⟨a, l, rfl, hd.rd, fun p np => kq _ _ _ _ (hg.new (o := .dic false kvs) np ⟨l, upd_same, e1, e2.keep (TK.new np)⟩) rv_ref (FK.new np) (h p (hg.free np))⟩
    · exact h.elim
  · exact h.elim
theorem l_index : MtR X "list.index" (liftM E indexS) := by
  intro pins s σ H x vs v us Q I rx r ⟨a, ws, g, q, ha, hw, hg, h, kq⟩
  have core : ∀ {p : Addr} {xs : List W} {ys : List V} {y : W}, x = .ref p → ws = [y] → SqL X.K H p ys → RVs E.K H xs ys → (flatW y = true ∧ xs.all flatW = true ∧ ∃ (j : Nat) (z : W), xs[j]? = some z ∧ eqW z y = true ∧ (∀ (m : Nat) (z' : W), m < j → xs[m]? = some z' → eqW z' y = false) ∧ q (.int (j : Nat)) g) →
      wpAny (model X.prog X.w) X.A (call (.builtin "list.index") (v :: us)) (EP X pins σ Q) X.xe s := by
    intro p xs ys y e0 e00 sq r1 h9
    subst e0
    rw [e00] at hw
    clear h
    obtain ⟨u, rfl, hy⟩ := rvs1 hw
    obtain ⟨f1, f2, j, z, k1, k2, k3, h⟩ := h9
    obtain ⟨zv, l1, l2⟩ := r1.get k1
    have fl := flats_rel r1 f2
    have fz : ∀ {i : Nat} {z : W}, xs[i]? = some z → flatW z = true := fun e => List.all_eq_true.mp f2 _ (List.mem_of_getElem? e)
    refine mt_index pins s σ H _ _ v us Q I rx r ⟨p, ys, u, j, zv, rfl, rfl, sq, flat_rel hy f1, fl, l1, (eq_rel l2 (fz k1) hy f1).trans k2, fun m z' hm e => ?_, kq _ g _ H hg rv_int FK.refl h⟩
    have hlt : m < xs.length := by
      have := (List.getElem?_eq_some_iff.mp e).1
      rw [r1.length] at this
      exact this
    obtain ⟨zv', l1', l2'⟩ := r1.get (List.getElem?_eq_getElem hlt)
    rw [e] at l1'
    cases l1'
    exact (eq_rel l2' (fz (List.getElem?_eq_getElem hlt)) hy f1).trans (k3 m _ hm (List.getElem?_eq_getElem hlt))
  unfold indexS at h
  split at h
  · rename_i p y
    simp only [RV] at ha; subst ha
    obtain ⟨xs, eg, h⟩ := lstAt_inv h
    obtain ⟨ys, e1, r1⟩ := hg _ _ eg
    exact core rfl rfl (SqL.of e1) r1 h
  · rename_i xs y
    obtain ⟨p, ys, rfl, ⟨o, e⟩, hr⟩ := rv_lv_fr ha
    exact core rfl rfl (.inl (.inr ⟨o, e⟩)) hr h
  · exact h.elim
theorem each_at {α β : Type} {R : α → β → Prop} : ∀ {vs : List α} {bs : List β}, PySem.W.EachIs R vs bs → ∀ {i : Nat} {v : α}, vs[i]? = some v → ∃ b, bs[i]? = some b ∧ R v b
  | _, _, .nil, _, _, h => by simp at h
  | _, _, .cons a r, 0, _, h => by simp at h; subst h; exact ⟨_, rfl, a⟩
  | _, _, .cons a r, i + 1, _, h => by
    obtain ⟨b, h1, h2⟩ := each_at r (i := i) (by simpa using h)
    exact ⟨b, by simpa using h1, h2⟩
theorem rvs_erase {K : PySem.W.Frag} {H : Hp} : ∀ {xs : List W} {ys : List V} {j : Nat}, RVs K H xs ys → RVs K H (xs.eraseIdx j) (ys.eraseIdx j)
  | [], _, _, r => by rw [r.nil_inv]; exact .nil
  | x :: xs, _, 0, r => by obtain ⟨u, r', rfl, h1, h2⟩ := r.cons_inv; exact h2
  | x :: xs, _, j + 1, r => by obtain ⟨u, r', rfl, h1, h2⟩ := r.cons_inv; exact .cons h1 (rvs_erase h2)
theorem vals_erase : ∀ {xs : List V} {us : List Value} {j : Nat}, Vals xs us → Vals (xs.eraseIdx j) (us.eraseIdx j)
  | _, _, _, .nil => .nil
  | _, _, 0, .cons r t => t
  | _, _, j + 1, .cons r t => .cons r (vals_erase t)
theorem l_min (hK : X.K = E.K) (hc : X.calm = true) (hu : X.A.units + 70 < cLine) : CallR X (.builtin "min") (liftL E minS) := by
  intro pins s σ H vs us Q I r ⟨ws, g, q, hw, hg, h, kq⟩
  unfold minS at h
  split at h
  · rename_i a
    obtain ⟨v, rfl, hv⟩ := rvs1 hw
    simp only [RV] at hv; subst hv
    obtain ⟨xs, eg, h⟩ := lstAt_inv h
    obtain ⟨ys, f1, r1⟩ := hg _ _ eg
    rcases h with ⟨ns, rfl, hn, h⟩ | ⟨enc, y, zs, rfl, h1, h2, h3, h4⟩
    · have e := r1.ints
      subst e
      exact cr_min hc pins s σ H _ us Q I r ⟨a, ns, rfl, SqL.of f1, hn, fun m h1 h2 => kq _ g _ H hg rv_int FK.refl (h m h1 h2)⟩
    · rw [Vals.ref1 r]
      obtain ⟨its, rv, hl, hz⟩ := I.list (SqL.of f1)
      have e := each_ru r1 rv
      obtain ⟨as, ra⟩ := PySem.W.each_readsAll enc (ru_all I hK hg e h1)
      refine PySem.W.min_list_data (x := enc y) (xs := zs.map enc) (as := as) (I.ok.hd hc) hl.isList ra h2 (by have : PyData.depthAll (enc y :: zs.map enc) ≤ 64 := h3; omega) fun i v h' tk bs hi hr hk => ?_
      obtain ⟨z, z1, u, z2, z3⟩ := each_at e (i := i) (v := v) (by rw [← Array.getElem?_toList] at hi; exact hi)
      have hz2 := List.mem_of_getElem? z1
      have I1 : Inv X pins σ H { s with heap := h', toks := tk } := I.kept hk
      obtain ⟨as2, rz⟩ := ru_reads I1 hK hg ⟨u, z2, z3⟩ (h1 z hz2)
      exact ⟨u, H, I1, z2, kq _ g _ H hg z3 FK.refl (h4 z hz2 (PySem.Reads.unique rz _ _ hr).1)⟩
  · rename_i xs
    obtain ⟨v, rfl, hv⟩ := rvs1 hw
    obtain ⟨ns, rfl, hn, h⟩ := h
    obtain ⟨p, ys, rfl, ht, hr⟩ := rv_lv_inv hv
    have e := hr.ints
    subst e
    exact cr_min hc pins s σ H _ us Q I r ⟨p, ns, rfl, by rw [hK]; exact ht.sq, hn, fun m h1 h2 => kq _ g _ H hg rv_int FK.refl (h m h1 h2)⟩
  · exact l_min2 hc pins s σ H vs us Q I r ⟨_, g, q, hw, hg, h, kq⟩
theorem l_remove (hK : X.K = E.K) (hu : X.A.units + 70 < cLine) : MtR X "list.remove" (liftM E removeS) := by
  intro pins s σ H x vs v us Q I rx r ⟨a, ws, g, q, ha, hw, hg, h, kq⟩
  unfold removeS at h
  split at h
  · rename_i p y
    simp only [RV] at ha; subst ha
    obtain ⟨u, rfl, hy⟩ := rvs1 hw
    obtain ⟨xs, eg, enc, d, j, h1, h2, h3, h4, h5, h6, h⟩ := lstAt_inv h
    obtain ⟨ys, f1, r1⟩ := hg _ _ eg
    cases rx
    obtain ⟨u', rfl, ru⟩ := r.one
    obtain ⟨z, its, n, rv, hl, e⟩ := I.lstM f1
    have e1 := each_ru r1 rv
    obtain ⟨as, ra⟩ := PySem.W.each_readsAll enc (ru_all I hK hg e1 h1)
    obtain ⟨bs, rd⟩ := ru_reads I hK hg ⟨u, ru, hy⟩ h2
    have t : TK H (upd H p (.lst (ys.eraseIdx j))) := hg.tk eg
    refine PySem.SeqAt.remove_list_data (l := p) (vs := its.toArray) ⟨_, e, rfl, _, rfl⟩ ra rd h3 h4 (by omega) h6 (by rw [List.size_toArray]; omega) ?_
    exact ⟨.non, _, I.lset (its' := its.eraseIdx j) f1 e (by simp) (vals_erase rv) (Nat.le_trans (List.length_eraseIdx_le _ _) z), rfl, kq _ _ _ _ (hg.wr (o' := .lst (xs.eraseIdx j)) eg ⟨_, upd_same, rvs_erase (r1.keep t)⟩) rv_non (FK.wr eg f1 (fun _ _ z => nomatch z)) h⟩
  · exact h.elim
end
end L3
set_option maxRecDepth 100000
set_option maxHeartbeats 4000000
namespace L3
open PySem PySem.Spec PyProof.Rows L2
section
variable {P : Program} {w : World}
def kOf : Value → Key
  | .int k _ => .inl k
  | .str x _ => .inr x
  | _ => .inl 0
theorem kOf_is {k : Key} {v : Value} (h : (mixKind P w).is k v = true) : kOf v = k := by
  rcases keyIs_shape h with ⟨i, t, e1, e2⟩ | ⟨x, t, e1, e2⟩ <;> (subst e1 e2; rfl)
theorem scan_is {k : Key} {v : Value} (h : (mixKind P w).is k v = true) : v.scannable = true := by
  rcases keyIs_shape h with ⟨i, t, e1, e2⟩ | ⟨x, t, e1, e2⟩ <;> (subst e1 e2; rfl)
structure SetM (P : Program) (w : World) (h : Heap) (a : Addr) (ks : List Key) : Prop where
  nd : ks.Nodup
  at_ : ∃ o es ep t, h.get? a = some o ∧ o.ExactSet ∧ o.data = .set es ep t ∧ ElemsOf (mixKind P w) es.toList ∧ (es.toList.map fun e => kOf e.2).Perm ks ∧ es.size < scanBound ∧ t.fits es.size = true ∧ Ris t.place.toList ∧ (w.params.followText "set-order" = true ∨ t.led = true)
theorem SetM.keep {h h' : Heap} {a : Addr} {ks : List Key} (R : SetM P w h a ks) (k : ∀ o, h.get? a = some o → h'.get? a = some o) : SetM P w h' a ks :=
  ⟨R.nd, let ⟨o, es, ep, t, ho, r⟩ := R.at_; ⟨o, es, ep, t, k o ho, r⟩⟩
theorem elem_key {l : List (Int × Value)} (g : ElemsOf (mixKind P w) l) (k : Key) : k ∈ (l.map fun e => kOf e.2) ↔ ∃ e ∈ l, (mixKind P w).is k e.2 = true := by
  rw [List.mem_map]
  refine ⟨fun ⟨e, he, q⟩ => ?_, fun ⟨e, he, q⟩ => ⟨e, he, kOf_is q⟩⟩
  obtain ⟨⟨k0, h0, _⟩, _⟩ := g e he
  have := kOf_is h0
  rw [q] at this
  subst this
  exact ⟨e, he, h0⟩
end
section
variable {P : Program} {w : World} {A : Around} {E : Value → Shared → Prop} {s : Shared} {a : Addr} {ks : List Key}
theorem grow_end {g : Bool → Sem Unit} (hg : ∀ (b : Bool) (u : Shared) (q : Unit → Shared → Prop), q () u → wpAny (model P w) A (g b) q E u)
    {o : Obj} {es : Array (Int × Value)} {ep : Nat} {t : SetTable} (ho : s.heap.get? a = some o) (hx : o.ExactSet) (hd : o.data = .set es ep t)
    {fs : Array (Int × Value)} {t2 : SetTable} (nd : ks.Nodup) (el : ElemsOf (mixKind P w) fs.toList) (pm : (fs.toList.map fun e => kOf e.2).Perm ks)
    (room : fs.size < scanBound) (fit : t2.fits fs.size = true) (ris : Ris t2.place.toList) (led : w.params.followText "set-order" = true ∨ t2.led = true) {dum : Bool} {R : Option Bool → Shared → Prop}
    (fin : ∀ h', Heap.SameBut a s.heap h' → SetM P w h' a ks → R (some true) { s with heap := h' }) :
    wpAny (model P w) A (do
        storeSet a fs t2
        if (!dum && t2.tooFull) = true then do
            g (relayAll t2 fs (SetTable.grown fs.size)).2.2
            storeSet a (relayAll t2 fs (SetTable.grown fs.size)).1 (relayAll t2 fs (SetTable.grown fs.size)).2.1
            pure (some true)
          else pure (some true)) R E s := by
  have at1 := store_at (es' := fs) (t' := t2) ho hd
  have sb := Heap.SameBut.update s.heap a (Obj.putSet fs t2)
  refine wpAny_bind (wpAny_storeSet_of ho hd ?_ (fits_of_scanBound room))
  by_cases full : (!dum && t2.tooFull) = true
  · rw [if_pos full]
    have p2 := relayAll_perm t2 fs (SetTable.grown fs.size)
    have f2 := relayAll_fits t2 fs (SetTable.grown fs.size)
    have r2 := relayAll_ris t2 fs (SetTable.grown fs.size)
    have l2 := relayAll_led t2 fs (SetTable.grown fs.size)
    generalize relayAll t2 fs (SetTable.grown fs.size) = Y at p2 f2 r2 l2 ⊢
    obtain ⟨gs, t3, gv⟩ := Y
    simp only at p2 f2 r2 l2 ⊢
    have sz : gs.size = fs.size := by rw [← Array.length_toList, p2.length_eq, Array.length_toList]
    have room2 : gs.size < scanBound := sz ▸ room
    refine wpAny_bind (hg _ _ _ (wpAny_bind (wpAny_storeSet_of at1 rfl ?_ (fits_of_scanBound room2))))
    have at2 := store_at (es' := gs) (t' := t3) at1 rfl
    exact wpAny_pure (fin _ (sb.trans (Heap.SameBut.update _ a _)) ⟨nd, _, gs, _, t3, at2, hx, rfl, fun e he => el e (p2.mem_iff.mp he), (p2.map _).trans pm, room2, f2, r2, led.imp id fun z => l2.trans z⟩)
  · rw [if_neg full]
    exact wpAny_pure (fin _ sb ⟨nd, _, fs, _, t2, at1, hx, rfl, el, pm, room, fit, ris, led⟩)
theorem setM_add {k : Key} {v : Value} {Q : Bool → Shared → Prop} (hk : (mixKind P w).is k v = true) (R : SetM P w s.heap a ks) (room : ks.length + 1 < scanBound)
    (hQ : ∀ (b : Bool) (h' : Heap) (ms : List Key), Heap.SameBut a s.heap h' → SetM P w h' a ms → ((ms = ks ∧ k ∈ ks) ∨ (ms = k :: ks ∧ k ∉ ks)) → Q b { s with heap := h' }) :
    wpAny (model P w) A (setAddHashed a v ((mixKind P w).hash k)) Q E s := by
  have hsc := scan_is hk
  obtain ⟨nd, o, es, ep, t, ho, hx, hd, el, pm, small, fit, ris, led⟩ := id R
  have hn : es.size = ks.length := by rw [← pm.length_eq, List.length_map, Array.length_toList]
  unfold setAddHashed setAddHashedIn
  refine wpAny_holding (wpAny_bind (wpAny_setState_of ho hd fit ?_))
  simp only
  rw [byScan_of hsc small el]
  rw [if_pos rfl]
  unfold setAddByScan
  refine wpAny_bind (wpAny_bind (wpAny_rule (wpAny_bind (wpAny_setScan_of hk ho hd fit el ?_))))
  cases found : List.findIdx? (fun e => (mixKind P w).is k e.2) es.toList with
  | some j =>
    simp only
    obtain ⟨hj, pj, _⟩ := List.findIdx?_eq_some_iff_getElem.mp found
    have inn : k ∈ ks := pm.mem_iff.mp ((elem_key el k).mpr ⟨_, List.getElem_mem hj, pj⟩)
    exact wpAny_pure (wpAny_pure (hQ false s.heap ks (Heap.SameBut.refl a s.heap) R (.inl ⟨rfl, inn⟩)))
  | none =>
    simp only
    have out : k ∉ ks := fun z => by
      obtain ⟨e, he, q⟩ := (elem_key el k).mp (pm.mem_iff.mpr z)
      have c := List.findIdx?_eq_none_iff.mp found e he
      rw [q] at c; cases c
    have gw : ∀ (b : Bool) {u : Shared} {q : Unit → Shared → Prop}, q () u → wpAny (model P w) A (match b with | true => rule "set.scan.the-table-gave-way" | false => pure ()) q E u := fun b u q z => by
      cases b
      · exact wpAny_pure z
      · exact wpAny_rule z
    have p1 := layNew_perm t es ((mixKind P w).hash k) v
    have f1 := layNew_fits t es ((mixKind P w).hash k) v
    have r1 := layNew_ris t es ((mixKind P w).hash k) v ris
    have l1 := layNew_led t es ((mixKind P w).hash k) v
    generalize layNew t es ((mixKind P w).hash k) v = Y at p1 f1 r1 l1 ⊢
    obtain ⟨fs, t1, dum, gv⟩ := Y
    simp only at p1 f1 r1 l1 ⊢
    rw [Array.toList_push] at p1
    have p2 : fs.toList.Perm (((mixKind P w).hash k, v) :: es.toList) := p1.trans (List.perm_append_singleton _ _)
    have p3 : (fs.toList.map fun e => kOf e.2).Perm (k :: ks) := by
      have q := p2.map fun e : Int × Value => kOf e.2
      rw [List.map_cons] at q
      rw [show kOf ((mixKind P w).hash k, v).2 = k from kOf_is hk] at q
      exact q.trans (pm.cons k)
    have el1 : ElemsOf (mixKind P w) fs.toList := fun e he => by
      rcases List.mem_cons.mp (p2.mem_iff.mp he) with z | z
      · subst z; exact ⟨⟨k, hk, rfl⟩, hsc⟩
      · exact el e z
    have sz : fs.size = ks.length + 1 := by rw [← Array.length_toList, p2.length_eq, List.length_cons, Array.length_toList, hn]
    have room1 : fs.size < scanBound := by omega
    have led1 : w.params.followText "set-order" = true ∨ t1.led = true := led.imp id fun z => l1.trans z
    have nd1 : (k :: ks).Nodup := List.nodup_cons.mpr ⟨out, nd⟩
    have fin : ∀ h', Heap.SameBut a s.heap h' → SetM P w h' a (k :: ks) → Q true { s with heap := h' } := fun h' sb r => hQ true h' _ sb r (.inr ⟨rfl, out⟩)
    have gwf : ∀ (b : Bool) (u : Shared) (q : Unit → Shared → Prop), q () u → wpAny (model P w) A (match b with | true => rule "set.scan.the-table-gave-way" | false => pure ()) q E u := fun b u q z => gw b z
    refine wpAny_bind (gw _ ?_)
    split
    · refine wpAny_bind ?_
      rw [hashByValue_scannable 8 hsc]
      refine wpAny_pure (grow_end gwf ho hx hd nd1 el1 p3 room1 ?_ ?_ ?_ fun h' sb r => ?_)
      · first | (split <;> first | exact f1 | exact SetTable.fits_plain_off f1) | exact f1
      · first | (split <;> exact r1) | exact r1
      · first | (split <;> exact led1) | exact led1
      · simp only; exact wpAny_pure (fin h' sb r)
    · refine wpAny_bind (wpAny_pure ?_)
      simp only [↓reduceIte]
      refine grow_end gwf ho hx hd nd1 el1 p3 room1 f1 r1 led1 fun h' sb r => ?_
      simp only; exact wpAny_pure (fin h' sb r)
def Met (xs : List Key) (i : Nat) (ks : List Key) : Prop := ks.length ≤ i ∧ ∀ k, k ∈ ks ↔ k ∈ xs.take i
theorem Met.zero {xs : List Key} : Met xs 0 [] := ⟨Nat.le_refl _, fun k => by simp⟩
theorem Met.next {xs : List Key} {i : Nat} {ks ms : List Key} {k : Key} (m : Met xs i ks) (e : xs[i]? = some k) (c : (ms = ks ∧ k ∈ ks) ∨ (ms = k :: ks ∧ k ∉ ks)) : Met xs (i + 1) ms := by
  have tk : xs.take (i + 1) = xs.take i ++ [k] := by rw [List.take_add_one, e]; rfl
  rcases c with ⟨rfl, h⟩ | ⟨rfl, h⟩
  · refine ⟨Nat.le_succ_of_le m.1, fun j => ?_⟩
    rw [tk, List.mem_append, List.mem_singleton, ← m.2 j]
    exact ⟨.inl, fun z => z.elim id fun z => z ▸ h⟩
  · refine ⟨Nat.succ_le_succ m.1, fun j => ?_⟩
    rw [tk, List.mem_append, List.mem_singleton, List.mem_cons, ← m.2 j]
    exact Or.comm
theorem upd_keys {I : Addr} {fp wr : List Addr} {G : Array GenState → Array GenState → Prop} {n : Nat} {Pv : Nat → Value → Prop} {St : Nat → Shared → Prop} {R : Result → Shared → Prop}
    (W : WalksS P w A.in1 I fp wr G n Pv St) (S : Addr) (apart : S ∉ fp) (xs : List Key) (hn : n = xs.length) (room : xs.length + 1 < scanBound) (hval : ∀ i v, Pv i v → ∃ k, xs[i]? = some k ∧ (mixKind P w).is k v = true) :
    ∀ (left i : Nat) (s : Shared), n - i = left → i ≤ n → St i s → (∃ ks, SetM P w s.heap S ks ∧ Met xs i ks) →
      (∀ s' ks, Moved (S :: wr) G s s' → SetM P w s'.heap S ks → Met xs n ks → R (.ok (.ret .none)) s') →
      codeAny (model P w) A (.builtin "set.update.loop" ⟨[.ref S, .ref I], []⟩) R s := by
  have more : ∀ b ∈ wr, b ∈ S :: wr := fun b => List.mem_cons_of_mem _
  have notw : S ∉ wr := fun z => apart (W.sub _ z)
  intro left
  induction left with
  | zero =>
    intro i s e0 le st ⟨ks, K, M⟩ out
    obtain rfl : i = n := by omega
    refine codeAny_builtin F.entry_set_update_loop ?_
    rw [Around.under_plainId F.plain_set_update_loop _]
    show wpAny _ A.in1 (pyNext (.ref I) >>= _) _ _ s
    refine wpAny_bind (W.done s _ _ st fun s' mv => ?_)
    show wpAny _ A.in1 (ret Value.none) _ _ s'
    exact wpAny_pure (out s' ks (mv.mono more) (K.keep fun o e => mv.heap S o notw e) M)
  | succ left ih =>
    intro i s e0 le st ⟨ks, K, M⟩ out
    have lt : i < n := by omega
    refine codeAny_builtin F.entry_set_update_loop ?_
    rw [Around.under_plainId F.plain_set_update_loop _]
    show wpAny _ A.in1 (pyNext (.ref I) >>= _) _ _ s
    refine wpAny_bind (W.item i s _ _ lt st fun v s' pv st' mv => ?_)
    obtain ⟨k, ek, hk⟩ := hval i v pv
    have K' : SetM P w s'.heap S ks := K.keep fun o e => mv.heap S o notw e
    show wpAny _ A.in1 (holding [v] (setAdd S v) >>= _) _ _ s'
    refine wpAny_bind (wpAny_holding ?_)
    unfold setAdd
    refine wpAny_holding (wpAny_bind ((mixKind P w).pyHash hk ?_))
    refine setM_add (s := { s' with toks := s'.toks + 1 }) hk K' (by have := M.1; omega) fun b h' ms same K2 c => ?_
    have M2 := M.next ek c
    refine wpAny_pure ⟨plainId_quiet F.plain_set_update_loop _, ih (i + 1) _ (by omega) lt (W.frame _ s' _ _ st' (Nat.le_succ _) fun b hb o e => ?_) ⟨ms, K2, M2⟩ fun s2 ks2 mv2 K3 M3 => ?_⟩
    · rw [same.2 b (fun z : b = S => apart (z ▸ hb))]; exact e
    · refine out s2 ks2 (Moved.trans W.gtrans ((mv.mono more).then_heap (Nat.le_succ _) fun b o hb e => ?_) mv2) K3 M3
      rw [same.2 b (fun z : b = S => hb (z ▸ List.mem_cons_self))]; exact e
abbrev emptySet (w : World) : Obj := { cls := .type "set", dict := none, data := .set #[] 0 (.fresh 0 0 (!w.params.followText "set-order")) }
theorem setM_fresh {h : Heap} {b : Addr} (e : h.get? b = some (emptySet w)) : SetM P w h b [] :=
  ⟨List.nodup_nil, _, #[], 0, _, e, ⟨rfl, rfl, rfl⟩, rfl, (fun e he => by simp at he), List.Perm.refl _, (by decide), (by rfl), List.Pairwise.nil, by
    show _ ∨ (!w.params.followText "set-order") = true
    cases w.params.followText "set-order"
    · exact .inr rfl
    · exact .inl rfl⟩
set_option maxRecDepth 100000 in
set_option maxHeartbeats 3200000 in
theorem set_of_list {l : Addr} {its : Array Value} (xs : List Key) {Q : Value → Shared → Prop} (hh : A.handled = none) (hl : s.heap.IsList l its) (hn : its.size = xs.length) (hv : ∀ (i : Nat) (v : Value), its[i]? = some v → ∃ k, xs[i]? = some k ∧ (mixKind P w).is k v = true)
    (room : xs.length + 1 < scanBound)
    (h : ∀ (h' : Heap) (tk : Nat) (ks : List Key), SetM P w h' s.heap.objs.size ks → Met xs xs.length ks → (∀ b o, s.heap.get? b = some o → h'.get? b = some o) → Q (.ref s.heap.objs.size) { s with heap := h', toks := tk }) :
    wpAny (model P w) A (call (.type "set") [.ref l]) Q E s := by
  have made := F.called_set.made
  obtain ⟨c, tl, mro⟩ := F.called_set.mro
  have sub := F.called_set.sub
  refine wpAny_call (codeAny_of_tree ?_)
  show wpAny _ _ (callAny (.type "set") _) _ _ _
  refine wpAny_pure ⟨Code.quiet_builtin _ (by decide +kernel), codeAny_builtin F.entry_type_call ?_⟩
  rw [Around.under_plain (weight_type_call_type "set" [.ref l] []) rfl]
  have n1 := F.called_set.notType
  have n2 := F.called_set.canCreate
  have n3 := F.typeCall_set_1 (.ref l)
  repeat (any_goals (first | assumption | wp_step))
  refine codeAny_mono (code_set_led1 (.ref l) (E := E) (Q₁ := fun x u => x = .ref s.heap.objs.size ∧ u = { s with heap := s.heap.push (emptySet w) }) ⟨rfl, rfl⟩) fun r u hr => ?_
  match r, hr with
  | .error e, hr => exact hr
  | .ok (.ret obj), hr =>
    obtain ⟨rfl, rfl⟩ := hr
    have e0 : (s.heap.push (emptySet w)).get? s.heap.objs.size = some (emptySet w) := Heap.get?_push_size _ rfl
    have ty : Shared.TypeIs { s with heap := s.heap.push (emptySet w) } (.ref s.heap.objs.size) "set" := ⟨_, e0, rfl⟩
    have i1 := F.called_set.init.lookup
    have i2 := F.called_set.init.bind (.ref s.heap.objs.size)
    repeat (any_goals (first | assumption | wp_step))
    refine codeAny_mono (codeAny_call_builtin (R := wants (fun r u => r = .none ∧ ∃ h' tk ks, u = { s with heap := h', toks := tk } ∧ SetM P w h' s.heap.objs.size ks ∧ Met xs xs.length ks ∧ (∀ b o, s.heap.get? b = some o → h'.get? b = some o)) E)
      F.called_set.init.plain F.entry_set_init (check_set_init_1 ty ?_)) fun r2 u2 hr2 => ?_
    · obtain ⟨ol, hol, hcl, nl, hdl⟩ := hl
      obtain ⟨ocls, odict, odata, oslots⟩ := ol
      simp only at hcl hdl
      subst hcl; subst hdl
      have hol2 : (s.heap.push (emptySet w)).get? l = some { cls := .type "list", dict := odict, data := .seq its nl, slots := oslots } := Heap.get?_push_of_some _ hol
      have k1 := F.sub_list_set
      have k2 := F.sub_list_frozenset
      have k3 : (Value.type "list" == Value.type "dict") = false := by decide
      have il : (s.heap.push (emptySet w)).IsList l its := ⟨_, hol2, rfl, nl, rfl⟩
      unfold Builtin.«set.__init__» noKeywords Builtin.Frozenset.updateFrom
      generalize hPI : pyIter = PI
      wp_walk
      subst hPI
      refine wpAny_pyIter_list il ?_
      refine wpAny_bind (wpAny_runValue ?_)
      have ll : l < s.heap.objs.size := Heap.lt_size hol
      have hh3 : A.in1.in1.in1.handled = none := by simp [hh]
      have z1 : (s.heap.push (emptySet w)).objs.size = s.heap.objs.size + 1 := Heap.size_push ..
      have far : l ≠ (s.heap.push (emptySet w)).objs.size := by rw [z1]; exact Nat.ne_of_lt (Nat.lt_succ_of_lt ll)
      have apart : s.heap.objs.size ∉ [(s.heap.push (emptySet w)).objs.size, l] := by
        rw [z1]; simp only [List.mem_cons, List.not_mem_nil, or_false, not_or]
        exact ⟨Nat.ne_of_lt (Nat.lt_succ_self _), Nat.ne_of_gt ll⟩
      refine upd_keys ((Walks.list hh3 _ l far its).toS) s.heap.objs.size apart xs hn room hv (its.size - 0) 0 _ rfl (Nat.zero_le _) ⟨⟨_, Heap.get?_push_size _ rfl, rfl, rfl⟩, il.push _⟩ ⟨[], setM_fresh (Heap.get?_push_of_some _ e0), .zero⟩ ?_
      intro s2 ks mv K M
      obtain ⟨h', g2, d2, tk2, os2⟩ := s2
      have q1 : g2 = s.gens := mv.gens
      have q2 : d2 = s.drawn := mv.drawn
      have q3 : os2 = s.os := mv.os
      subst q1; subst q2; subst q3
      show wpAny _ _ _ _ _ _
      refine wpAny_pure ?_
      show wpAny _ _ (ret Value.none) _ _ _
      rw [hn] at M
      refine wpAny_pure ⟨rfl, h', tk2, ks, rfl, K, M, fun b o e => ?_⟩
      have lb := Heap.lt_size e
      exact mv.heap b o (by simp only [List.mem_cons, List.not_mem_nil, or_false, not_or]; exact ⟨Nat.ne_of_lt lb, by rw [z1]; exact Nat.ne_of_lt (Nat.lt_succ_of_lt lb)⟩) (Heap.get?_push_of_some _ (Heap.get?_push_of_some _ e))
    · match r2, hr2 with
      | .error e, hr2 => exact hr2
      | .ok (.ret r), hr2 =>
        obtain ⟨rfl, h', tk, ks, rfl, K, M, kp⟩ := hr2
        repeat (any_goals (first | assumption | wp_step))
        exact h _ _ _ K M kp
end
end L3
set_option maxRecDepth 100000
set_option maxHeartbeats 4000000
namespace L3
open PySem PySem.Spec L2 PyProof.Rows PySem.W
section
variable {X : Cx} {E : Env3} {pins : List (Addr × Obj)} {σ : L2.St} {H : Hp} {s : Shared} {g : G} {w : WX}
theorem rvs_kinv {K : PySem.W.Frag} : ∀ {ks : List Key} {ys : List V}, RVs K H (ks.map kW) ys → ys = ks.map kV
  | [], _, h => h.nil_inv
  | k :: ks, _, h => by
    obtain ⟨v, r, rfl, h1, h2⟩ := h.cons_inv
    rw [rvs_kinv h2]
    have : v = kV k := by cases k <;> simpa [kW, kV, RV] using h1
    rw [this]; rfl
theorem keysL_raw {a : W} {v : V} {q : List Key → Prop} (hK : X.K = E.K) (I : Inv X pins σ H s) (hg : GR E g H) (r : RV E.K H a v) (h : keysL a g q) : ∃ (p : Addr) (ks : List Key), v = .ref p ∧ SqL X.K H p (ks.map kV) ∧ q ks := by
  unfold keysL at h
  split at h
  · rw [RV] at r; subst r
    obtain ⟨xs, e1, ks, rfl, h1⟩ := lstAt_inv h
    obtain ⟨ys, q1, r1⟩ := hg _ _ e1
    rw [rvs_kinv r1] at q1
    exact ⟨_, ks, rfl, SqL.of q1, h1⟩
  · obtain ⟨p, ys, rfl, ht, hr⟩ := rv_scr_inv r
    obtain ⟨ks, rfl, h1⟩ := h
    rw [rvs_kinv hr] at ht
    exact ⟨p, ks, rfl, by rw [hK]; exact ht.sq, h1⟩
  · obtain ⟨p, ys, rfl, ht, hr⟩ := rv_lv_inv r
    obtain ⟨ks, rfl, h1⟩ := h
    rw [rvs_kinv hr] at ht
    exact ⟨p, ks, rfl, by rw [hK]; exact ht.sq, h1⟩
  · exact h.elim
theorem vals_key {P : Program} {wd : World} : ∀ {ks : List Key} {us : List Value}, Vals (ks.map kV) us → us.length = ks.length ∧ ∀ (i : Nat) (v : Value), us[i]? = some v → ∃ k, ks[i]? = some k ∧ (mixKind P wd).is k v = true
  | [], _, h => by cases h; exact ⟨rfl, fun i v e => by simp at e⟩
  | k :: ks, _, h => by
    cases h with
    | cons a r =>
      obtain ⟨h1, h2⟩ := vals_key (P := P) (wd := wd) r
      refine ⟨by simp [h1], fun i v e => ?_⟩
      cases i with
      | zero => simp at e; subst e; exact ⟨k, rfl, kV_is a⟩
      | succ i => exact h2 i v (by simpa using e)
theorem made_set {Q : Value → Shared → Prop} {Z : Value → Shared → Prop} (hc : X.calm = true) (I : Inv X pins σ H s) {p : Addr} {ks : List Key} (hq : SqL X.K H p (ks.map kV)) (hl : ks.length ≤ 4000)
    (h : ∀ (h' : Heap) (tk : Nat) (ms : List Key), SetM X.prog X.w h' s.heap.objs.size ms → (∀ k, k ∈ ms ↔ k ∈ ks) → ms.length ≤ ks.length → Inv X pins σ H { s with heap := h', toks := tk } → Q (.ref s.heap.objs.size) { s with heap := h', toks := tk }) :
    wpAny (model X.prog X.w) X.A (call (.type "set") [.ref p]) Q Z s := by
  obtain ⟨its, r, pl, hz⟩ := I.list hq
  obtain ⟨n1, n2⟩ := vals_key (P := X.prog) (wd := X.w) r
  refine set_of_list (P := X.prog) (w := X.w) ks (I.ok.hd hc) pl.isList (by rw [List.size_toArray]; exact n1) (fun i v e => n2 i v (by simpa using e)) (by unfold scanBound; omega) fun h' tk ms K M kp => ?_
  refine h h' tk ms K (fun k => ?_) M.1 (I.kept kp)
  rw [M.2 k, List.take_length]
theorem pe_lset {e : Expr} {te : TE3} {p p2 pos pos2 : Pos} (hK : X.K = E.K) (hc : X.calm = true) (hg : Gl X "len") (hm : X.mg "len" = none) (hg2 : Gl X "set") (hm2 : X.mg "set" = none) (he : PE X e (liftE E w te))
    (hs : starEach [e] X.env = (false, eval e X.env) :: starEach [] X.env) : PE X (.Call (.Name "len" p) [.Call (.Name "set" p2) [e] [] pos2] [] pos) (liftE E w fun x s g q => te x s g fun v g1 => lsetS v g1 q) := by
  refine ⟨fun pins s σ H Q I ⟨s3, g, q, x, hsr, hgr, h, kq, kx⟩ => ?_⟩
  refine Call_ (ld_blt I hg hm boot_len ?_)
  refine PyProof.Rows.callWith_builtin1 (PyProof.Rows.args_cons ?_ rfl) rfl rfl
  refine Call_ (ld_blt I hg2 hm2 PyProof.Rows.boot_set ?_)
  refine PyProof.Rows.callWith_type1 (PyProof.Rows.args_cons (thn (he.run pins s σ H (fun v H1 => ∃ a g1, RV E.K H1 a v ∧ GR E g1 H1 ∧ FK g H g1 H1 ∧ lsetS a g1 q) I ⟨s3, g, _, x, hsr, hgr, h, fun a g1 v H1 hg1 ra f1 h1 => ⟨a, g1, ra, hg1, f1, h1⟩, kx⟩) fun v s1 ⟨y, H1, I1, r1, a, g1, ra, hg1, f1, h1⟩ => PyProof.Rows.args_nil ?_) hs) hs rfl
  obtain ⟨b, ks, rfl, hq, hl, h1⟩ := keysL_raw hK I1 hg1 ra h1
  cases r1
  refine made_set hc I1 hq hl fun h' tk ms K M L I2 => PyProof.Rows.args_nil ?_
  obtain ⟨nd, o, es, ep, t, ho, hx, hd, el, pm, small, fit, _, _⟩ := K
  have en : es.size = ms.length := by rw [← pm.length_eq, List.length_map, Array.length_toList]
  refine call_len_set ho hx hd fit (by rw [en]; omega) ⟨.int ms.length, H1, I2.tok _, ⟨_, by rw [en]⟩, kq _ g1 _ H1 hg1 rv_int f1 (h1 ms nd M)⟩
theorem pe_sset {e : Expr} {te : TE3} {p p2 pos pos2 : Pos} (hK : X.K = E.K) (hc : X.calm = true) (hu : X.A.units + 70 < cLine) (hg : Gl X "sorted") (hm : X.mg "sorted" = none) (hg2 : Gl X "set") (hm2 : X.mg "set" = none) (he : PE X e (liftE E w te))
    (hs : starEach [e] X.env = (false, eval e X.env) :: starEach [] X.env) : PE X (.Call (.Name "sorted" p) [.Call (.Name "set" p2) [e] [] pos2] [] pos) (liftE E w fun x s g q => te x s g fun v g1 => ssetS v g1 q) := by
  refine ⟨fun pins s σ H Q I ⟨s3, g, q, x, hsr, hgr, h, kq, kx⟩ => ?_⟩
  refine Call_ (ld_blt I hg hm PyProof.Rows.boot_sorted ?_)
  refine PyProof.Rows.callWith_builtin1 (PyProof.Rows.args_cons ?_ rfl) rfl rfl
  refine Call_ (ld_blt I hg2 hm2 PyProof.Rows.boot_set ?_)
  refine PyProof.Rows.callWith_type1 (PyProof.Rows.args_cons (thn (he.run pins s σ H (fun v H1 => ∃ a g1, RV E.K H1 a v ∧ GR E g1 H1 ∧ FK g H g1 H1 ∧ ssetS a g1 q) I ⟨s3, g, _, x, hsr, hgr, h, fun a g1 v H1 hg1 ra f1 h1 => ⟨a, g1, ra, hg1, f1, h1⟩, kx⟩) fun v s1 ⟨y, H1, I1, r1, a, g1, ra, hg1, f1, h1⟩ => PyProof.Rows.args_nil ?_) hs) hs rfl
  obtain ⟨b, ks, rfl, hq, hl, h1⟩ := keysL_raw hK I1 hg1 ra h1
  cases r1
  refine made_set hc I1 hq hl fun h' tk ms K M L I2 => PyProof.Rows.args_nil ?_
  obtain ⟨nd, o, es, ep, t, ho, hx, hd, el, pm, small, fit, ris, led⟩ := K
  have en : es.size = ms.length := by rw [← pm.length_eq, List.length_map, Array.length_toList]
  refine Calls.call_function_entry PyProof.Rows.kind_sorted PyProof.Rows.plain_sorted PyProof.Rows.entry_sorted (PyProof.Rows.args_sorted1 _) ?_
  unfold Builtin.«sorted»
  refine wpAny_bind (m := checkCount "sorted" 1 1 _) (wpAny_pure ?_)
  refine wpAny_bind (collect_set (A := X.A.in1) (I2.ok.hd hc) ⟨o, ho, hx.1, hd⟩ fit small ris led fun s2 vs k2 z2 g2 o2 pv => ?_)
  have hms : (vs.map kOf).Perm ms := by
    have := pv.map kOf
    rw [List.map_map] at this
    exact this.trans pm
  have lv : vs.length = ms.length := by rw [← hms.length_eq, List.length_map]
  have h2 := h1 (vs.map kOf) (hms.nodup_iff.mpr nd) fun k => hms.mem_iff.trans (M k)
  obtain ⟨enc, h1, h2, h3, h4, h5⟩ := h2
  have I3 : Inv X pins σ H1 s2 := I2.call' (ch := []) o2 (Un.kept k2) (I2.hok.kept k2) (by rw [g2]; exact I2.bare) (fun _ z => nomatch z)
  have h16 : vs.length ≤ sizeLine := by rw [lv, ← en]; exact fits_of_scanBound small
  have eE : PySem.W.EachIs (RU E.K H1) vs ((vs.map kOf).map kW) := by
    refine kw_each (knd := mixKind X.prog X.w) (fun {k v} e => ?_) (by rw [List.length_map]) fun j v e => ?_
    · rcases keyIs_shape e with ⟨i, t, ek, ev⟩ | ⟨z, t, ek, ev⟩
      · subst ek; exact ⟨t, ev⟩
      · subst ek; exact ⟨t, ev⟩
    · refine ⟨kOf v, by rw [List.getElem?_map, e]; rfl, ?_⟩
      obtain ⟨e', he', rfl⟩ := List.mem_map.mp (pv.mem_iff.mp (List.mem_of_getElem? e))
      obtain ⟨⟨k0, hk0, _⟩, _⟩ := el e' he'
      rw [kOf_is hk0]; exact hk0
  refine wpAny_bind (wpAny_newList ?_ h16)
  have hoL : (s2.heap.push (seqObj "list" vs.toArray 0)).get? s2.heap.objs.size = some (seqObj "list" vs.toArray 0) := Heap.get?_push_size _ rfl
  show wpAny _ _ _ _ _ { s2 with heap := s2.heap.push (seqObj "list" vs.toArray 0) }
  have er : PySem.W.EachIs (fun v b => ∃ as, Reads (sortingHeap (s2.heap.push (seqObj "list" vs.toArray 0)) s2.heap.objs.size vs) v (enc b) as) vs ((vs.map kOf).map kW) :=
    (ru_all I3 hK hg1 eE h1).mono fun _ _ ⟨as, r⟩ => ⟨as, PyProof.Rows.Reads.keeps (fun b o e => by
      have hb : b < s2.heap.objs.size := Heap.lt_size e
      exact sortingHeap_old (Nat.ne_of_lt hb) (Heap.get?_push_of_some _ e)) r⟩
  have S : PySem.W.SortsAt X.prog X.w X.A.in1.in1 { s2 with heap := sortingHeap (s2.heap.push (seqObj "list" vs.toArray 0)) s2.heap.objs.size vs } (PySem.W.dataKind (sortingHeap (s2.heap.push (seqObj "list" vs.toArray 0)) s2.heap.objs.size vs) (((vs.map kOf).map kW).map enc)) vs :=
    PySem.W.SortsAt.data (PySem.W.each_map (R := fun v d => ∃ as, Reads _ v d as) enc er) h2 h3 fun d hd => by
      obtain ⟨b, hb, rfl⟩ := List.mem_map.mp hd
      have := h4 b hb
      show X.A.units + 1 + 1 + _ < cLine
      omega
  have eo := PySem.W.sortVals_data false eE er h2
  obtain ⟨zs, q1, q2⟩ := ru_each eo
  have lz : zs.length ≤ sizeLine := by rw [q1.length, List.length_mergeSort, List.length_map, List.length_map]; exact h16
  refine wpAny_bind (wpAny_holding (wpAny_call_entry PyProof.Rows.slot_list_sort ⟨_, hoL, rfl⟩ PyProof.Rows.entry_list_sort
    (PySem.W.list_sort_vals (s := { s2 with heap := s2.heap.push (seqObj "list" vs.toArray 0) }) hoL S h16 ⟨_, rfl, ?_⟩)
    (PyProof.Rows.args_list_sort _)))
  obtain ⟨e', he'⟩ := PyProof.Rows.sortedHeap_at (vs := vs) (out := (PySem.W.sortVals (PySem.W.dataKind (sortingHeap (s2.heap.push (seqObj "list" vs.toArray 0)) s2.heap.objs.size vs) (((vs.map kOf).map kW).map enc)) false vs vs).toArray) hoL
  refine wpAny_pure ⟨_, rfl, .ref s2.heap.objs.size, upd H1 s2.heap.objs.size (.lst zs), I3.laid (t' := s2.toks) (fun b u e => ?_) (Nat.le_refl _)
    (show ObjOk X.prog X.w _ _ _ (.lst zs) from ⟨lz, _, e', q2, he'⟩), rfl, new_lst hg1 (I3.hok.fresh (Nat.le_refl _)) q1 h5 (kq.at f1)⟩
  have hb : b < s2.heap.objs.size := Heap.lt_size e
  rw [PyProof.Rows.sortedHeap_old (Nat.ne_of_lt hb) (by rw [size_push']; exact Nat.lt_succ_of_lt hb)]
  exact Heap.get?_push_of_some _ e
theorem maxOf_ge : ∀ (ys : List Int) (y : Int), PySem.W.maxOf y ys ∈ y :: ys ∧ ∀ u ∈ y :: ys, u ≤ PySem.W.maxOf y ys
  | [], y => ⟨List.mem_cons_self, fun u h => by rw [List.mem_singleton.mp h]; exact Int.le_refl _⟩
  | z :: ys, y => by
    have e : PySem.W.maxOf y (z :: ys) = PySem.W.maxOf (if decide (y < z) = true then z else y) ys := rfl
    obtain ⟨h1, h2⟩ := maxOf_ge ys (if decide (y < z) = true then z else y)
    rw [e]
    have h3 := h2 _ List.mem_cons_self
    constructor
    · rcases List.mem_cons.mp h1 with k | k
      · rw [k]; split <;> simp
      · exact List.mem_cons_of_mem _ (List.mem_cons_of_mem _ k)
    · intro u hu
      rcases List.mem_cons.mp hu with rfl | hu
      · by_cases c : u < z
        · rw [if_pos (by simpa using c)] at h3 ⊢; omega
        · rw [if_neg (by simpa using c)] at h3 ⊢; omega
      · rcases List.mem_cons.mp hu with rfl | hu
        · by_cases c : y < u
          · rw [if_pos (by simpa using c)] at h3 ⊢; omega
          · rw [if_neg (by simpa using c)] at h3 ⊢; omega
        · exact h2 u (List.mem_cons_of_mem _ hu)
theorem minOf_le : ∀ (ys : List Int) (y : Int), PySem.W.minOf y ys ∈ y :: ys ∧ ∀ u ∈ y :: ys, PySem.W.minOf y ys ≤ u
  | [], y => ⟨List.mem_cons_self, fun u h => by rw [List.mem_singleton.mp h]; exact Int.le_refl _⟩
  | z :: ys, y => by
    have e : PySem.W.minOf y (z :: ys) = PySem.W.minOf (if decide (z < y) = true then z else y) ys := rfl
    obtain ⟨h1, h2⟩ := minOf_le ys (if decide (z < y) = true then z else y)
    rw [e]
    have h3 := h2 _ List.mem_cons_self
    constructor
    · rcases List.mem_cons.mp h1 with k | k
      · rw [k]; split <;> simp
      · exact List.mem_cons_of_mem _ (List.mem_cons_of_mem _ k)
    · intro u hu
      rcases List.mem_cons.mp hu with rfl | hu
      · by_cases c : z < u
        · rw [if_pos (by simpa using c)] at h3 ⊢; omega
        · rw [if_neg (by simpa using c)] at h3 ⊢; omega
      · rcases List.mem_cons.mp hu with rfl | hu
        · by_cases c : u < y
          · rw [if_pos (by simpa using c)] at h3 ⊢; omega
          · rw [if_neg (by simpa using c)] at h3 ⊢; omega
        · exact h2 u (List.mem_cons_of_mem _ hu)
def rMxd (K : PySem.W.Frag) (mn : Bool) : List V → List V → Hp → VK → Prop := fun vs zs H Q => ∃ (a : Addr) (ns : List Int) (z : V), vs = [V.ref a] ∧ zs = [z] ∧ SqL K H a (ns.map V.int) ∧ (ns = [] → Q z H) ∧ ∀ m, m ∈ ns → (∀ y, y ∈ ns → (if mn = true then m ≤ y else y ≤ m)) → Q (.int m) H
theorem cr_mxd (hc : X.calm = true) (hu : X.A.units + 70 < cLine) (mn : Bool) : CallRK X (.builtin (if mn = true then "min" else "max")) [Str.ofString "default"] (rMxd X.K mn) := by
  intro pins s σ H vs zs us ws Q I r rz h
  obtain ⟨a, ns, z, rfl, rfl, hs, q0, q⟩ := h
  obtain ⟨its, rv, hl, _⟩ := I.list hs
  rw [Vals.ref1 r]
  cases rz with
  | cons r1 r2 =>
  cases r2
  rename_i v
  have hd : X.A.units + 1 + PySem.W.Datum.depth Int < cLine := by show X.A.units + 1 + 0 < cLine; omega
  cases mn with
  | true =>
    exact PySem.W.min_list_datum_default (α := Int) (I.ok.hd hc) hl.isList (PySem.W.HoldAll.of_ints (by simpa using rv.ints)) hd (fun e h' tk hk => ⟨z, H, I.kept hk, r1, q0 e⟩) fun y ys i v h' tk e hi hv hk => by
      obtain ⟨t, rfl⟩ := PySem.W.int_of_holds hv
      obtain ⟨k1, k2⟩ := minOf_le ys y
      exact ⟨.int _, H, I.kept hk, ⟨t, rfl⟩, q _ (by rw [e]; exact k1) (by rw [e]; exact k2)⟩
  | false =>
    exact PySem.W.max_list_datum_default (α := Int) (I.ok.hd hc) hl.isList (PySem.W.HoldAll.of_ints (by simpa using rv.ints)) hd (fun e h' tk hk => ⟨z, H, I.kept hk, r1, q0 e⟩) fun y ys i v h' tk e hi hv hk => by
      obtain ⟨t, rfl⟩ := PySem.W.int_of_holds hv
      obtain ⟨k1, k2⟩ := maxOf_ge ys y
      exact ⟨.int _, H, I.kept hk, ⟨t, rfl⟩, q _ (by rw [e]; exact k1) (by rw [e]; exact k2)⟩
theorem l_mxd {mn : Bool} {te td : TE3} {σ : L2.St} {H : Hp} {Q : VK} (hK : X.K = E.K) (h : liftE E w (fun x s g q => te x s g fun a g1 => td x s g1 fun z g2 => mxdS mn a z g2 q) σ H Q) : tCKw (rMxd X.K mn) (tCons (liftE E w te) tNil) (tCons (liftE E w td) tNil) σ H Q := by
  obtain ⟨s, g, q, x, hs, hg, h, kq, kx⟩ := h
  refine ⟨s, g, _, x, hs, hg, h, fun a g1 v H1 hg1 ra f1 h1 => ?_, kx⟩
  refine ⟨s, g1, _, x, hs.keep (f1.tk hg), hg1, h1, fun z g2 u H2 hg2 rz f2 h2 => ?_, kx.at f1⟩
  have ra := ra.keep (f2.tk hg1)
  have f := f1.trans f2
  have fin : ∀ (p : Addr) (ns : List Int), SqL X.K H2 p (ns.map V.int) → (ns = [] → q z g2) → (∀ m, m ∈ ns → (∀ y, y ∈ ns → (if mn = true then m ≤ y else y ≤ m)) → q (.int m) g2) → rMxd X.K mn [V.ref p] [u] H2 Q := fun p ns hp h0 hm =>
    ⟨p, ns, u, rfl, rfl, hp, fun e => kq z g2 u H2 hg2 rz f (h0 e), fun m k1 k2 => kq _ g2 _ H2 hg2 rv_int f (hm m k1 k2)⟩
  unfold mxdS at h2
  split at h2
  · simp only [RV] at ra; subst ra
    obtain ⟨xs, eg, ns, rfl, k1, k2⟩ := lstAt_inv h2
    obtain ⟨ys, e1, r1⟩ := hg2 _ _ eg
    have e := r1.ints
    subst e
    exact fin _ ns (SqL.of e1) k1 k2
  · obtain ⟨ns, rfl, k1, k2⟩ := h2
    obtain ⟨p, ys, rfl, ht, hr⟩ := rv_lv_inv ra
    have e := hr.ints
    subst e
    exact fin p ns (by rw [hK]; exact ht.sq) k1 k2
  · exact h2.elim
theorem boot_mx (mn : Bool) : bootBuiltins (if mn = true then ("min" : Str) else ("max" : Str)) = some (.builtin (if mn = true then "min" else "max")) := by cases mn <;> decide +kernel
theorem pe_mxd {mn : Bool} {e d : Expr} {te td : TE3} {p kp pos : Pos} (hK : X.K = E.K) (hc : X.calm = true) (hu : X.A.units + 70 < cLine) (hg : Gl X (if mn = true then ("min" : Str) else ("max" : Str))) (hm : X.mg (if mn = true then ("min" : Str) else ("max" : Str)) = none) (he : PE X e (liftE E w te)) (hd : PE X d (liftE E w td))
    (hs : starEach [e] X.env = (false, eval e X.env) :: starEach [] X.env) : PE X (.Call (.Name (if mn = true then ("min" : Str) else ("max" : Str)) p) [e] [⟨some "default", d, kp⟩] pos) (liftE E w fun x s g q => te x s g fun a g1 => td x s g1 fun z g2 => mxdS mn a z g2 q) := by
  exact peI (pe_callBK (cr_mxd hc hu mn) hg hm (boot_mx mn) (pa_cons he pa_nil hs) (pk_cons hd pk_nil) (by cases mn <;> decide +kernel) (by cases mn <;> decide +kernel) (by rw [hs]; rfl) (by rw [hs]; rfl) rfl rfl rfl) fun _ _ _ => l_mxd hK
end
end L3
set_option maxRecDepth 100000
set_option maxHeartbeats 4000000
namespace L3
open PySem PySem.Spec L2
structure Ck where
  N : List Str
  sc : Scope
  inDef : Bool
  P : List (Option Str)
  gls : List Str
  xs : List Str
  cs : List (Str × List Bool) := []
  hot : Bool := false
  ocs : List OC3 := []
  fl : List Str := []
  ics : List (Str × List Bool) := []
  hP : List (Option Str) := []
  xf : List (Option Str) := []
  xfl : List Str := []
def envS (sc : Scope) : Env := { scope := sc, locals := 0, globals := 0, cells := [], qual := ⟨#[]⟩, func := none, code := .none, frame := none, builtins := 0 }
def relab (scope sc : Scope) : Scope := relabel scope (envS sc)
def Ck.inner (ck : Ck) (scope : Scope) : Ck := { ck with sc := relab scope ck.sc, inDef := false, xs := [] }
def boOf : Bo → Operator
  | .add => .Add | .sub => .Sub | .mul => .Mult | .fdiv => .FloorDiv | .mod => .Mod | .pow => .Pow
def coOf : Co → CmpOp
  | .eq => .Eq | .ne => .NotEq | .lt => .Lt | .le => .LtE | .gt => .Gt | .ge => .GtE | .is => .Is | .isnot => .IsNot | .in_ => .In | .notin => .NotIn | .deq => .Eq | .dne => .NotEq
def prOf : Pr → Str × Bool
  | .len => ("len", false) | .abs => ("abs", false) | .str => ("str", true) | .max => ("max", false) | .min => ("min", false) | .sum => ("sum", false)
  | .all => ("all", false) | .any => ("any", false) | .int => ("int", true) | .list => ("list", true) | .divmod => ("divmod", false) | .sorted => ("sorted", false) | .dict => ("dict", true)
def mtOf : Mt → Str
  | .append => "append" | .extend => "extend" | .pop => "pop" | .join => "join" | .split => "split" | .partition => "partition" | .index => "index" | .remove => "remove"
def hotPr : Pr → Bool
  | .len => true | .abs => true | .divmod => true | .str => true | .int => true | .dict => true
  | _ => false
def blts : List Str := ["len", "abs", "str", "max", "min", "sum", "all", "any", "int", "list", "divmod", "isinstance", "range", "reversed", "enumerate", "zip", "bool", "tuple", "dict", "set", "sorted"]
def plainE : Expr → Bool
  | .Starred .. => false
  | _ => true
def notSl : Expr → Bool
  | .Slice .. => false
  | _ => true
def notComp : Expr → Bool
  | .ListComp .. => false
  | .SetComp .. => false
  | .DictComp .. => false
  | _ => true
def plainBase : Expr → Bool
  | .Call (.Name _ _) [] [] _ => false
  | _ => true
def isTupE : Expr → Bool
  | .Tuple .. => true
  | _ => false
def isListE : Expr → Bool
  | .List .. => true
  | _ => false
section
variable (ck : Ck)
def nmOk (x : Str) : Bool := !(x == ("__debug__" : Str)) && !(x == ("__classdict__" : Str))
def isVar (i : Nat) (x : Str) : Bool := decide (ck.N[i]? = some x) && (match ck.sc.names.lookup x with | some .local => true | some .cell => true | some .free => true | _ => false) && nmOk x
def isLoc (i : Nat) (x : Str) : Bool := decide (ck.N[i]? = some x) && (match ck.sc.names.lookup x with | some .local => true | some .cell => ck.inDef | _ => false)
def isLoc1 (i : Nat) (x : Str) : Bool := decide (ck.N[i]? = some x) && decide (ck.sc.names.lookup x = some .local)
def isGl (x : Str) : Bool := decide (ck.sc.names.lookup x = some .globalImplicit) && nmOk x
def isxOf : Expr → Option (Str × Str × List Expr)
  | .Call (.Name x _) [.Name n _, .Tuple es _ _] [] _ => some (x, n, es)
  | _ => none
theorem isxOf_inv {e : Expr} {x n : Str} {es : List Expr} (h : isxOf e = some (x, n, es)) : ∃ q q1 k q2 p, e = .Call (.Name x q) [.Name n q1, .Tuple es k q2] [] p := by
  unfold isxOf at h
  split at h
  · cases h; exact ⟨_, _, _, _, _, rfl⟩
  · cases h
def clsNs : List (Str × List Bool) → List Expr → Bool
  | [], [] => true
  | (y, row) :: ys, .Name t _ :: es => decide (t = y) && (isGl ck t && (decide ((y, row) ∈ ck.cs) && clsNs ys es))
  | _, _ => false
def locs : List Nat → List Expr → Bool
  | [], [] => true
  | i :: is, .Name x _ :: es => isLoc ck i x && locs is es
  | _, _ => false
def chkT : T3 → Expr → Bool
  | .name i, .Name x _ => isLoc ck i x
  | .tup is, .Tuple es _ _ => locs ck is es && !ck.hot
  | _, _ => false
def tIs : T3 → List Nat
  | .name i => [i]
  | .tup is => is
end
def lrevOf : Expr → Option (Str × Str × Expr)
  | .Call (.Name x _) [.Call (.Name y _) [v] [] _] [] _ => some (x, y, v)
  | _ => none
theorem lrevOf_inv {e : Expr} {x y : Str} {v : Expr} (h : lrevOf e = some (x, y, v)) : ∃ q q2 p2 p, e = .Call (.Name x q) [.Call (.Name y q2) [v] [] p2] [] p := by
  unfold lrevOf at h
  split at h
  · cases h; exact ⟨_, _, _, _, rfl⟩
  · cases h
def iscOf : Expr → Option (Str × Expr × Str)
  | .Call (.Name x _) [l, .Name t _] [] _ => some (x, l, t)
  | _ => none
theorem iscOf_inv {e : Expr} {x t : Str} {l : Expr} (h : iscOf e = some (x, l, t)) : ∃ q q2 p, e = .Call (.Name x q) [l, .Name t q2] [] p := by
  unfold iscOf at h
  split at h
  · cases h; exact ⟨_, _, _, rfl⟩
  · cases h
def nevOk : Expr → Bool
  | .Set .. => false
  | .ListComp .. => false
  | .SetComp .. => false
  | .DictComp .. => false
  | .GeneratorExp .. => false
  | _ => true
def specialT : Expr → Bool
  | .UnaryOp .Not _ _ => true
  | .BoolOp .. => true
  | .IfExp .. => true
  | .Compare .. => true
  | _ => false
mutual
def chk : E3 → Ck → Expr → Bool
  | .var i, ck, .Name x _ => isVar ck i x
  | .int i, _, .Constant (.int j) _ _ => decide (i = j)
  | .str i, _, .Constant (.str j) _ _ => decide (i = j)
  | .bl i, _, .Constant (.bool j) _ _ => decide (i = j)
  | .non, _, .Constant .none _ _ => true
  | .glob i, ck, .Name x _ => decide (ck.gls[i]? = some x) && isGl ck x
  | .bin o a b, ck, .BinOp l op r _ => decide (boOf o = op) && chk a ck l && chk b ck r
  | .neg a, ck, .UnaryOp .USub x _ => chk a ck x
  | .cmp o a b, ck, .Compare l [op] [r] _ => decide (coOf o = op) && chk a ck l && chk b ck r && !(behindInMarks op r)
  | .cmp2 o o' a b c, ck, .Compare l [op, op'] [r, r'] _ => decide (coOf o = op) && decide (coOf o' = op') && chk a ck l && chk b ck r && chk c ck r' && !(behindInMarks op' r')
  | .cmp3 o o' o'' a b c d, ck, .Compare l [op, op', op''] [r, r', r''] _ => decide (coOf o = op) && decide (coOf o' = op') && decide (coOf o'' = op'') && chk a ck l && chk b ck r && chk c ck r' && chk d ck r'' && !(behindInMarks op'' r'')
  | .and es, ck, .BoolOp .And vs _ => chks es ck vs
  | .or es, ck, .BoolOp .Or vs _ => chks es ck vs
  | .not a, ck, .UnaryOp .Not x _ => chk a ck x
  | .ite c a b, ck, .IfExp t x y _ => chk c ck t && chk a ck x && chk b ck y
  | .lst es, ck, .List vs _ => chks es ck vs
  | .tup es, ck, .Tuple vs _ _ => chks es ck vs
  | .dic _, _, .Dict [] [] _ => true
  | .ix a i, ck, .Subscript l r _ => chk a ck l && chk i ck r && notSl r
  | .sl a lo hi, ck, .Subscript l (.Slice l1 l2 none _) _ => chk a ck l && chko lo ck l1 && chko hi ck l2
  | .call f es, ck, .Call (.Name x _) vs [] _ => decide (ck.P[f]? = some (some x)) && isGl ck x && chks es ck vs && !ck.hot
  | .prim p es, ck, .Call (.Name x _) (v :: vs) [] _ => decide ((prOf p).1 = x) && isGl ck x && chks es ck (v :: vs) && (!ck.hot || hotPr p)
  | .meth m o es, ck, .Call (.Attribute l name apos) vs [] cpos => decide (mtOf m = name) && plainBase l && (apos.endLine == cpos.line) && chk o ck l && chks es ck vs && decide (vs.length < 20)
  | .isi a T, ck, .Call (.Name x _) [l, .Name t _] [] _ => decide (x = ("isinstance" : Str)) && isGl ck x && decide (t = Str.ofString T) && isGl ck t && decide (T ∈ tySome) && chk a ck l
  | .isx i y row, ck, .Call (.Name x _) [.Name n _, .Name t _] [] _ => decide (x = ("isinstance" : Str)) && isGl ck x && decide (t = y) && isGl ck y && isVar ck i n && decide ((y, row) ∈ ck.cs) && ck.hot
  | .lc elt tg it c own, ck, .ListComp e [⟨tg', it', ifs, 0⟩] scope _ =>
      blkC ck.N ck.sc scope (own.filterMap fun i => ck.N[i]?.map fun x => (x, i)) && (tIs tg).all (fun i => decide (i ∈ own)) && own.all (fun i => decide (i < ck.N.length)) && decide ((tIs tg).Nodup) &&
      chki it ck (isTupE tg') it' && chkT (ck.inner scope) tg tg' && chk elt (ck.inner scope) e &&
      chkc c (ck.inner scope) ifs && !ck.hot
  | .lcK elt tg it c own, ck, .ListComp e [⟨tg', it', ifs, 0⟩] scope _ =>
      blkC ck.N ck.sc scope (own.filterMap fun i => ck.N[i]?.map fun x => (x, i)) && (tIs tg).all (fun i => decide (i ∈ own)) && own.all (fun i => decide (i < ck.N.length)) && decide ((tIs tg).Nodup) &&
      chki it ck (isTupE tg') it' && chkT (ck.inner scope) tg tg' && chk elt (ck.inner scope) e &&
      chkc c (ck.inner scope) ifs && !ck.hot
  | .dget1 o e, ck, .Call (.Attribute l name apos) [v] [] cpos => decide (name = ("get" : Str)) && plainBase l && (apos.endLine == cpos.line) && chk o ck l && chk e ck v && plainE v
  | .dpop1 o e, ck, .Call (.Attribute l name apos) [v] [] cpos => decide (name = ("pop" : Str)) && plainBase l && (apos.endLine == cpos.line) && chk o ck l && chk e ck v && plainE v
  | .dget2 o e d, ck, .Call (.Attribute l name apos) [v, u] [] cpos => decide (name = ("get" : Str)) && plainBase l && (apos.endLine == cpos.line) && chk o ck l && chk e ck v && chk d ck u && plainE v && plainE u
  | .dsetd o e d, ck, .Call (.Attribute l name apos) [v, u] [] cpos => decide (name = ("setdefault" : Str)) && plainBase l && (apos.endLine == cpos.line) && chk o ck l && chk e ck v && chk d ck u && plainE v && plainE u
  | .dpop2 o e d, ck, .Call (.Attribute l name apos) [v, u] [] cpos => decide (name = ("pop" : Str)) && plainBase l && (apos.endLine == cpos.line) && chk o ck l && chk e ck v && chk d ck u && plainE v && plainE u
  | .lrev a, ck, x => match lrevOf x with
    | some (x, y, v) => decide (x = ("list" : Str)) && isGl ck x && decide (y = ("reversed" : Str)) && isGl ck y && chk a ck v && plainE v && !ck.hot
    | none => false
  | .lset a, ck, x => match lrevOf x with
    | some (x, y, v) => decide (x = ("len" : Str)) && isGl ck x && decide (y = ("set" : Str)) && isGl ck y && chk a ck v && plainE v && !ck.hot
    | none => false
  | .sset a, ck, x => match lrevOf x with
    | some (x, y, v) => decide (x = ("sorted" : Str)) && isGl ck x && decide (y = ("set" : Str)) && isGl ck y && chk a ck v && plainE v && !ck.hot
    | none => false
  | .mxd mn a d, ck, .Call (.Name x _) [v] [⟨some k, u, _⟩] _ => decide (x = (if mn = true then ("min" : Str) else ("max" : Str))) && isGl ck x && decide (k = ("default" : Str)) && chk a ck v && chk d ck u && plainE v && !ck.hot
  | .dic1 k v, ck, .Dict [some a] [b] _ => chk k ck a && chk v ck b
  | .dic2 k v k2 v2, ck, .Dict [some a, some a2] [b, b2] _ => chk k ck a && chk v ck b && chk k2 ck a2 && chk v2 ck b2
  | .frz e, ck, x => !(specialT x) && chk e ck x
  | .attr o f, ck, .Attribute l name _ => decide (f = name) && plainBase l && decide (f ∈ ck.fl) && chk o ck l
  | .mcall o m es, ck, .Call (.Attribute l name apos) vs [] cpos => decide (m = name) && plainBase l && (apos.endLine == cpos.line) && decide (m ∉ ck.fl) && chk o ck l && chks es ck vs && decide (vs.length < 20) && !ck.hot
  | .new c f es, ck, .Call (.Name x _) vs [] _ => (match ck.ocs[c]? with | some oc => decide (oc.name = x) && decide (oc.init = f) | none => false) && isGl ck x && chks es ck vs && !ck.hot
  | .fmt e, ck, .FormattedValue v (-1) none _ => chk e ck v
  | .nev, _, x => !(specialT x) && plainE x && nevOk x
  | .ccall c f m es, ck, .Call (.Attribute (.Name y q) name apos) (v :: vs) [] cpos => (match ck.ocs[c]? with | some oc => decide (oc.name = y) && (if m = ("__init__" : Str) then decide (oc.init = f) else decide (oc.meths.lookup m = some f)) | none => false) && decide (m = name) && isGl ck y && (apos.endLine == cpos.line) && chks es ck (v :: vs) && decide ((v :: vs).length < 20) && decide (m = ("__init__" : Str)) && !ck.hot
  | .isc a y row, ck, e => match iscOf e with
    | some (x, l, t) => decide (x = ("isinstance" : Str)) && isGl ck x && decide (t = y) && isGl ck t && decide ((y, row) ∈ ck.ics) && chk a ck l
    | none => false
  | .fstr es, ck, .JoinedStr (v1 :: v2 :: vs) _ => chkf es ck (v1 :: v2 :: vs)
  | .isxs i ys, ck, e => match isxOf e with
    | some (x, n, es) => decide (x = ("isinstance" : Str)) && (isGl ck x && (isVar ck i n && (clsNs ck ys es && (decide (0 < ys.length ∧ ys.length < 100) && ck.hot))))
    | none => false
  | .xattr i f, ck, .Attribute (.Name n _) name _ => decide (f = name) && isVar ck i n && decide (f ∈ ck.xfl) && ck.hot
  | .hcall f es, ck, .Call (.Name x _) (v :: vs) [] _ => decide (ck.hP[f]? = some (some x)) && isGl ck x && chks es ck (v :: vs) && ck.hot && ck.inDef
  | _, _, _ => false
def chks : Es3 → Ck → List Expr → Bool
  | .nil, _, [] => true
  | .cons e es, ck, v :: vs => plainE v && chk e ck v && chks es ck vs
  | _, _, _ => false
def chkf : Es3 → Ck → List Expr → Bool
  | .nil, _, [] => true
  | .cons e es, ck, v :: vs => chk e ck v && chkf es ck vs
  | _, _, _ => false
def chko : O3 → Ck → Option Expr → Bool
  | .none, _, none => true
  | .some e, ck, some v => chk e ck v
  | _, _, _ => false
def chkc : O3 → Ck → List Expr → Bool
  | .none, _, [] => true
  | .some e, ck, [v] => chk e ck v
  | _, _, _ => false
def chki : I3 → Ck → Bool → Expr → Bool
  | .rng1 a, ck, _, .Call (.Name x _) [v] [] _ => decide (x = ("range" : Str)) && isGl ck x && chk a ck v && plainE v
  | .rng2 a b, ck, _, .Call (.Name x _) [v, u] [] _ => decide (x = ("range" : Str)) && isGl ck x && chk a ck v && chk b ck u && plainE v && plainE u
  | .rng3 a b c, ck, _, .Call (.Name x _) [v, u, t] [] _ => decide (x = ("range" : Str)) && isGl ck x && chk a ck v && chk b ck u && chk c ck t && plainE v && plainE u && plainE t
  | .str a, ck, _, e => chk a ck e
  | .rev a, ck, _, .Call (.Name x _) [v] [] _ => decide (x = ("reversed" : Str)) && isGl ck x && chk a ck v && plainE v
  | .enum a, ck, t, .Call (.Name x _) [v] [] _ => t && decide (x = ("enumerate" : Str)) && isGl ck x && chk a ck v && plainE v
  | .zip a b, ck, t, .Call (.Name x _) [v, u] [] _ => t && decide (x = ("zip" : Str)) && isGl ck x && chk a ck v && chk b ck u && plainE v && plainE u
  | .seq a, ck, _, e => chk a ck e
  | .keys a, ck, _, e => chk a ck e
  | .items a, ck, t, .Call (.Attribute l name apos) [] [] cpos => t && decide (name = ("items" : Str)) && plainBase l && (apos.endLine == cpos.line) && chk a ck l
  | _, _, _, _ => false
end
def swapOk (ck : Ck) (x y : Str) (px py : Pos) (a b : Expr) : Bool :=
  (py.line == px.line) && decide (ck.sc.names.lookup x = some .local) && decide (ck.sc.names.lookup y = some .local) && decide (x ≠ y) && !(foldedForSure 8 a && foldedForSure 8 b) && !(constantsAlone 8 a && constantsAlone 8 b)
def parOf : Stmt → Option (Str × Pos × Str × Pos × Expr × Expr)
  | .Assign [.Tuple [.Name x px, .Name y py] _ _] (.Tuple [u, v] _ _) _ => some (x, px, y, py, u, v)
  | _ => none
def raiseOf : Stmt → Option Str
  | .Raise (some (.Call (.Name x _) [.Constant (.str _) _ _] [] _)) none _ => some x
  | _ => none
def raiseFOf : Stmt → Option (Str × Expr)
  | .Raise (some (.Call (.Name x _) [v] [] _)) none _ => some (x, v)
  | _ => none
theorem raiseFOf_inv {st : Stmt} {x : Str} {v : Expr} (h : raiseFOf st = some (x, v)) : ∃ q p2 p, st = .Raise (some (.Call (.Name x q) [v] [] p2)) none p := by
  unfold raiseFOf at h
  split at h
  · cases h; exact ⟨_, _, _, rfl⟩
  · cases h
def isNil3 : Ss3 → Bool
  | .nil => true
  | _ => false
def tryOf : Stmt → Option (List Stmt × Str × Option Str × Stmt × List Stmt × List Stmt)
  | .Try b [.ExceptHandler (some (.Name t _)) n (s0 :: ss) _] o [] _ => some (b, t, n, s0, ss, o)
  | _ => none
theorem tryOf_inv {st : Stmt} {b ss o : List Stmt} {t : Str} {n : Option Str} {s0 : Stmt} (h : tryOf st = some (b, t, n, s0, ss, o)) : ∃ q q2 p, st = .Try b [.ExceptHandler (some (.Name t q)) n (s0 :: ss) q2] o [] p := by
  unfold tryOf at h
  split at h
  · cases h; exact ⟨_, _, _, rfl⟩
  · cases h
theorem parOf_inv {st : Stmt} {x y : Str} {px py : Pos} {u v : Expr} (h : parOf st = some (x, px, y, py, u, v)) : ∃ k q k2 q2 p, st = .Assign [.Tuple [.Name x px, .Name y py] k q] (.Tuple [u, v] k2 q2) p := by
  unfold parOf at h
  split at h
  · cases h; exact ⟨_, _, _, _, _, rfl⟩
  · cases h
theorem raiseOf_inv {st : Stmt} {x : Str} (h : raiseOf st = some x) : ∃ q m k q2 p2 p, st = .Raise (some (.Call (.Name x q) [.Constant (.str m) k q2] [] p2)) none p := by
  unfold raiseOf at h
  split at h
  · cases h; exact ⟨_, _, _, _, _, _, rfl⟩
  · cases h
def chkN (ck : Ck) : Option Nat → Option Str → Bool
  | some i, some n => isLoc1 ck i n
  | none, none => true
  | _, _ => false
def isFrz : E3 → Bool
  | .frz _ => true
  | _ => false
mutual
def chkS : S3 → Ck → Stmt → Bool
  | .expr e, ck, .Expr x _ => chk e ck x && notComp x
  | .ret e, ck, .Return (some x) _ => chk e ck x
  | .retN, _, .Return none _ => true
  | .set i e, ck, .Assign [.Name x _] v _ => isLoc ck i x && chk e ck v && (notComp v || !isFrz e)
  | .setT is e, ck, .Assign [.Tuple es _ _] v _ => locs ck is es && chk e ck v && !(isTupE v) && !ck.hot
  | .par i j a b, ck, st => match parOf st with
    | some (x, px, y, py, u, v) => decide (i ≠ j) && isLoc ck i x && isLoc ck j y && chk a ck u && chk b ck v && plainE u && plainE v && swapOk ck x y px py u v && !ck.hot
    | none => false
  | .put o i e, ck, .Assign [.Subscript l r _] v _ => chk e ck v && chk o ck l && chk i ck r && notSl r
  | .ifS c a b, ck, .If t x y _ => chk c ck t && chkSs a ck x && chkSs b ck y
  | .for_ tg it body, ck, .For tg' it' b [] _ => chkT ck tg tg' && chki it ck (isTupE tg') it' && chkSs body ck b && !ck.hot
  | .forK tg it body, ck, .For tg' it' b [] _ => chkT ck tg tg' && chki it ck (isTupE tg') it' && chkSs body ck b && !ck.hot
  | .while_ c body, ck, .While t b [] _ => chk c ck t && chkSs body ck b
  | .brk, _, .Break _ => true
  | .cont, _, .Continue _ => true
  | .pass, _, .Pass _ => true
  | .raise_ c, ck, st => match raiseOf st with
    | some x => decide (ck.xs[c]? = some x) && isGl ck x && !ck.hot && decide (ck.xf[c]? = some none) && ck.inDef
    | none => false
  | .try_ body y row nm suite els, ck, st => match tryOf st with
    | some (b, t, n, s0, ss, o) => decide (t = y) && isGl ck y && decide ((y, row) ∈ ck.cs) && chkN ck nm n && chkSs body ck b && chkSs suite { ck with hot := true } (s0 :: ss) && chkSs els ck o && (nm.isNone || isNil3 els) && !ck.hot && ck.inDef
    | none => false
  | .never, _, _ => true
  | .seta o f e, ck, .Assign [.Attribute l name _] v _ => decide (f = name) && decide (f ∈ ck.fl) && notComp v && chk e ck v && chk o ck l
  | .fz _ st, ck, x => chkS st ck x
  | .raiseF c f e, ck, st => match raiseFOf st with
    | some (x, v) => decide (ck.xs[c]? = some x) && isGl ck x && !ck.hot && decide (ck.xf[c]? = some (some f)) && chk e ck v && plainE v && ck.inDef
    | none => false
  | _, _, _ => false
def chkSs : Ss3 → Ck → List Stmt → Bool
  | .nil, _, [] => true
  | .cons s ss, ck, x :: xs => chkS s ck x && chkSs ss ck xs
  | _, _, _ => false
end
end L3
set_option maxRecDepth 100000
set_option maxHeartbeats 4000000
namespace L3
open PySem PySem.Spec L2
def spF (E : Env3) (c : List W → G → XK3 → VK3 → Prop) (n : Nat) : Sp := fun vs H Q X => vs.length = n ∧ ∃ ws g q x, RVs E.K H ws vs ∧ GR E g H ∧ c ws g x q ∧ KQ E g H q Q ∧ KX E g H x X
structure DefRun (X : Cx) (E : Env3) (c : List W → G → XK3 → VK3 → Prop) (f : Addr) : Prop where
  ex : ∃ (fd : FuncData) (ps : List Str) (k : Nat), FnOk X.prog X.w X.K X.mg X.base (L2.CX X.prog X.w) k f fd ps (spF E c ps.length) ∧ Room (k + 1) X.A ∧
    ∀ ws g x q, c ws g x q → ∃ ds dvs dws, Vals dvs ds ∧ Binds X.K fd ps ds ∧ (∀ H, RVs E.K H dws dvs) ∧ (ws ++ dws).length = ps.length ∧ c (ws ++ dws) g x q
structure CallOk (X : Cx) (E : Env3) (c : List W → G → XK3 → VK3 → Prop) (x : Str) : Prop where
  ex : ∃ f : Addr, X.mg x = some (.ref f) ∧ PySem.W.keepIn X.K (.ref f) = true ∧ DefRun X E c f
structure FnX (Pr : Program) (w : World) (K : PySem.W.Frag) (mg : Str → Option Value) (base : Heap) (k : Nat) (f : Addr) (fd : FuncData) (ps : List Str) (sp : Sp) (p : Addr × Obj) : Prop where
  len : ∀ vs H Q X, sp vs H Q X → vs.length = ps.length
  run : ∀ (A : Around) (out : List Env) (s : Shared) (H : Hp) (args : Args) (us : List Value) (vs : List V) (Q : VK), L2H.RoomH k A → L2H.PinOk out H s p → Env0 Pr w K mg base A out s H → BindsTo s fd args (ps.zip us) → Vals vs us → sp vs H Q (fun _ _ _ => False) →
    codeAny (model Pr w) A (.call (.ref f) args) (CR (L2.CX Pr w) out Pr w H s Q (fun _ _ _ => False)) s
structure XfOk (K : PySem.W.Frag) (E : Env3) (c : Nat) : Prop where
  xf : XfC K (E.cls c)
  no : ∀ f ∈ E.xfl, PySem.W.findIn K (.ref (E.cls c)) f = some none
structure HRun (X : Cx) (E : Env3) (c : List W → G → XK3 → VK3 → Prop) (f : Addr) : Prop where
  ex : ∃ (fd : FuncData) (ps : List Str) (k : Nat), (∀ (a : Addr) (oe : Obj) (cn : Nat) (dd : Option Addr), Zc (.ref (E.cls cn)) dd oe → (∃ vs, oe.data = .fields vs) → XfOk X.K E cn →
      FnX X.prog X.w X.K X.mg X.base k f fd ps (spF E (fun ws g x q => c (.exc a cn dd :: ws) g x q) ps.length) (a, oe)) ∧ L2H.RoomH k X.A ∧ Binds X.K fd ps [] ∧ ∀ a cn dd ws g x q, c (.exc a cn dd :: ws) g x q → ws.length = ps.length
structure HCallOk (X : Cx) (E : Env3) (c : List W → G → XK3 → VK3 → Prop) (x : Str) : Prop where
  ex : ∃ f : Addr, X.mg x = some (.ref f) ∧ PySem.W.keepIn X.K (.ref f) = true ∧ HRun X E c f
structure ClsOk (X : Cx) (E : Env3) (ck : Ck) : Prop where
  on : E.on = ck.ocs.length
  fl : E.fl = ck.fl
  cls : ∀ c, c < E.on → Cls X.K (E.ocl c)
  noat : ∀ c, c < E.on → ∀ f ∈ E.fl, NoAttr X.K (E.ocl c) f
structure InitRd (K : PySem.W.Frag) (C fa : Addr) : Prop where
  rd : PySem.W.readsIn K C (.type "type") = true
  ga : PySem.W.specialIn K (.ref C) "__getattribute__" = some (some (.builtin "type.__getattribute__"))
  at_ : PySem.W.findCls K (.ref C) (.type "type") "__init__" = some (.val (.ref fa))
  kp : PySem.W.keepIn K (.ref fa) = true
structure IscFact (X : Cx) (E : Env3) (y : Str) (row : List Bool) : Prop where
  ex : ∃ D : Addr, X.mg y = some (.ref D) ∧ ∀ (c : Nat) (b : Bool), row[c]? = some b → PySem.W.kitOne X.K (.ref (E.ocl c)) (.ref D) = some b ∧ PySem.W.findIn X.K (.ref (E.ocl c)) "__class__" = some (some (.builtin "object.__class__")) ∧
    PySem.W.specialIn X.K (.builtin "object.__class__") "__get__" = some (some (.builtin "getset_descriptor.__get__")) ∧ PySem.W.takesIn X.K (.builtin "object.__class__") = some true ∧ PySem.W.mroIn X.K (E.ocl c) (.type "object") = some true
structure ObOk (X : Cx) (E : Env3) (CF : CF3) (ck : Ck) : Prop where
  meth : ∀ c oc m i, ck.ocs[c]? = some oc → oc.meths.lookup m = some i → ∃ fa, Meth X.K (E.ocl c) m fa ∧ DefRun X E (CF i) fa
  mkr : ∀ c oc, ck.ocs[c]? = some oc → ∃ fa, Mk X.K (E.ocl c) fa ∧ X.mg oc.name = some (.ref (E.ocl c)) ∧ DefRun X E (CF oc.init) fa ∧ InitRd X.K (E.ocl c) fa
structure RaiseOk (X : Cx) (E : Env3) (c : Nat) (x : Str) : Prop where
  pm : Gl X x → ∀ p m j p2 pos, PMk X (.Call (.Name x p) [.Constant (.str m) j p2] [] pos) (fun _ H Q => Q (.ref (E.cls c)) none H)
def spI (C : Addr) (f : Str) : Sp := fun vs H Q _ => ∃ a v, vs = [.ref a, v] ∧ H a = some (exo a C none) ∧ ∀ dx, H dx = none → dx ≠ a → Q .non (upd (upd H dx (exd dx [(f, v)])) a (exo a C (some dx)))
def XfQ (C : Addr) (f : Str) (Q : XK) (v : V) (H1 : Hp) : Prop := [v].length ≤ 1000 ∧ ∀ a, H1 a = none → spI C f (.ref a :: ([v] ++ [])) (upd H1 a (exo a C none))
  (fun u H2 => u = .non ∧ ∃ (d : Addr) (fs : List (Str × V)), H2 a = some (exo a C (some d)) ∧ H2 d = some (exd d fs) ∧ H1 d = none ∧ Q (.ref C) (some d) (upd (del H2 a) d (.xd fs))) (fun _ _ _ => False)
theorem xfq_of {C : Addr} {f : Str} {Q : XK} {v : V} {H1 : Hp} (h : ∀ d, H1 d = none → Q (.ref C) (some d) (upd H1 d (.xd [(f, v)]))) : XfQ C f Q v H1 := by
  refine ⟨by simp, fun a ha => ⟨a, v, rfl, upd_same, fun dx h1 h2 => ⟨rfl, dx, [(f, v)], upd_same, by rw [upd_ne h2, upd_same], by rw [upd_ne h2] at h1; exact h1, ?_⟩⟩⟩
  rw [upd_ne h2] at h1
  have e : upd (del (upd (upd (upd H1 a (exo a C none)) dx (exd dx [(f, v)])) a (exo a C (some dx))) a) dx (.xd [(f, v)]) = upd H1 dx (.xd [(f, v)]) := by
    funext b
    by_cases z : b = dx
    · subst z; rw [upd_same, upd_same]
    · rw [upd_ne z, upd_ne z]
      by_cases z2 : b = a
      · subst z2; rw [del_same, ha]
      · rw [del_ne z2, upd_ne z2, upd_ne z, upd_ne z2]
  rw [e]
  exact h dx h1
structure RaiseFOk (X : Cx) (E : Env3) (c : Nat) (x : Str) (f : Str) : Prop where
  pm : Gl X x → (x == ("__debug__" : Str)) = false → ∀ (e : Expr) (t : TE) (p pos : Pos), PE X e t → plainE e = true → PMk X (.Call (.Name x p) [e] [] pos) (fun σ H Q => t σ H fun v H1 => XfQ (E.cls c) f Q v H1)
structure ClsFact (X : Cx) (E : Env3) (y : Str) (row : List Bool) : Prop where
  ex : ∃ (v : V) (c : Value), RelV v c ∧ (∀ u, RelV v u → u = c) ∧ (X.mg y = some c ∨ (X.mg y = none ∧ bootBuiltins y = some c ∧ y ≠ "__name__")) ∧
    ∀ (k : Nat) (b : Bool), row[k]? = some b → PySem.W.kitOne X.K (.ref (E.cls k)) c = some b ∧ PySem.W.exmOne X.K (.ref (E.cls k)) c = some b ∧ ExcC X.K (E.cls k) ∧ XfOk X.K E k
structure SuOk (X : Cx) (E : Env3) (gl : Gs) : Prop where
  ex : ∃ (a : Addr) (oe : Obj) (c : Nat) (d : Option Addr), (a, oe) ∈ X.pn ∧ gl.su = some (a, c, d) ∧ Zc (.ref (E.cls c)) d oe ∧ (∃ vs, oe.data = .fields vs) ∧ XfOk X.K E c
def w0 : WX := fun _ _ _ _ => False
structure CkOk (ck : Ck) (X : Cx) (E : Env3) (w : WX) (CF : CF3) (gl : Gs) : Prop where
  hK : X.K = E.K
  hN : X.N = ck.N
  nd : ck.N.Nodup
  sc : X.env.scope = ck.sc
  kind : ck.sc.kind = .function
  calm : ck.hot = false → X.calm = true
  stk : ck.inDef = true → X.stack = X.env :: X.outer ∧ X.env.frame = some X.env.locals
  cs : ∀ p ∈ ck.cs, ClsFact X E p.1 p.2
  su : ck.hot = true → SuOk X E gl
  fn : ck.inDef = true → ∀ x, X.fn x = true
  tk : Takes X w
  pass : PassesOwn (model X.prog X.w) X.A X.env X.xe
  hu : X.A.units + 100 < cLine
  blt : ∀ x ∈ blts, X.mg x = none
  gls : ∀ i x, ck.gls[i]? = some x → ∃ u v, X.mg x = some u ∧ RelV v u ∧ ∀ H, RV E.K H (gl.v i) v
  fns : ck.hot = false → ∀ i x, ck.P[i]? = some (some x) → CallOk X E (CF i) x
  goc : gl.ocs = ck.ocs
  cl : ClsOk X E ck
  ob : ck.hot = false → ObOk X E CF ck
  ics : ∀ p ∈ ck.ics, IscFact X E p.1 p.2
  xs : ck.hot = false → ∀ c x, ck.xs[c]? = some x → ∀ X' : Cx, X'.prog = X.prog → X'.w = X.w → X'.K = X.K → X'.mg = X.mg → Room 2 X'.A → (ck.xf[c]? = some none → RaiseOk X' E c x) ∧ ∀ f, ck.xf[c]? = some (some f) → RaiseFOk X' E c x f
  xfl : E.xfl = ck.xfl
  hw : ck.hot = true → w = w0
  room : ck.inDef = true → ck.hot = false → Room 2 X.A
  hfn : ck.inDef = true → ∀ i x, ck.hP[i]? = some (some x) → HCallOk X E (CF i) x
theorem bool_and {a b : Bool} (h : (a && b) = true) : a = true ∧ b = true := by simpa using h
theorem bool_not {a : Bool} (h : (!a) = true) : a = false := by simpa using h
section
variable {X : Cx} {E : Env3} {w : WX} {CF : CF3} {gl : Gs} {ck : Ck}
theorem nm_1 {x : Str} (h : nmOk x = true) : (x == ("__debug__" : Str)) = false ∧ (x == ("__classdict__" : Str)) = false := by
  unfold nmOk at h
  obtain ⟨a, b⟩ := bool_and h
  exact ⟨bool_not a, bool_not b⟩
theorem CkOk.var (ok : CkOk ck X E w CF gl) {i : Nat} {x : Str} (h : isVar ck i x = true) : X.N[i]? = some x ∧ Vis X.env.scope x ∧ (x == ("__debug__" : Str)) = false ∧ (x == ("__classdict__" : Str)) = false := by
  unfold isVar at h
  obtain ⟨h, h3⟩ := bool_and h
  obtain ⟨h1, h2⟩ := bool_and h
  refine ⟨by rw [ok.hN]; exact of_decide_eq_true h1, ?_, nm_1 h3⟩
  rw [ok.sc]
  split at h2
  · exact .inl (by assumption)
  · exact .inr (.inl (by assumption))
  · exact .inr (.inr (by assumption))
  · cases h2
theorem CkOk.loc (ok : CkOk ck X E w CF gl) {i : Nat} {x : Str} (h : isLoc ck i x = true) : X.N[i]? = some x ∧ Loc X.env.scope x ∧ (X.fn x = true ∨ X.env.scope.names.lookup x = some .local) := by
  unfold isLoc at h
  obtain ⟨h1, h2⟩ := bool_and h
  refine ⟨by rw [ok.hN]; exact of_decide_eq_true h1, ?_⟩
  rw [ok.sc]
  split at h2
  · rename_i e; exact ⟨.inl e, .inr e⟩
  · rename_i e; exact ⟨.inr e, .inl (ok.fn h2 x)⟩
  · cases h2
theorem CkOk.gl' (ok : CkOk ck X E w CF gl) {x : Str} (h : isGl ck x = true) : Gl X x ∧ (x == ("__debug__" : Str)) = false := by
  unfold isGl at h
  obtain ⟨h1, h2⟩ := bool_and h
  exact ⟨by unfold Gl; show X.env.scope.names.lookup x = _; rw [ok.sc]; exact of_decide_eq_true h1, (nm_1 h2).1⟩
theorem CkOk.nd' (ok : CkOk ck X E w CF gl) : X.N.Nodup := by rw [ok.hN]; exact ok.nd
theorem star_plain {e : Expr} {es : List Expr} {env : Env} (h : plainE e = true) : starEach (e :: es) env = (false, eval e env) :: starEach es env := by
  cases e <;> first | rfl | (simp [plainE] at h)
theorem chks_plain : ∀ {es : Es3} {ck : Ck} {vs : List Expr}, chks es ck vs = true → ∀ v ∈ vs, plainE v = true
  | .nil, _, [], _, v, hv => by cases hv
  | .nil, _, _ :: _, h, _, _ => by simp [chks] at h
  | .cons e es, _, [], h, _, _ => by simp [chks] at h
  | .cons e es, ck, u :: vs, h, v, hv => by
    simp only [chks] at h
    obtain ⟨h, h3⟩ := bool_and h
    obtain ⟨h1, h2⟩ := bool_and h
    rcases List.mem_cons.mp hv with rfl | hv
    · exact h1
    · exact chks_plain h3 v hv
theorem star_any {env : Env} {pos : Pos} : ∀ {es : List Expr}, (∀ v ∈ es, plainE v = true) → (backTo pos (starEach es env)).any (·.1) = false
  | [], _ => rfl
  | e :: es, h => by
    rw [star_plain (h e List.mem_cons_self)]
    show (false || (backTo pos (starEach es env)).any (·.1)) = false
    rw [star_any fun v hv => h v (List.mem_cons_of_mem _ hv)]
    rfl
theorem star_all {env : Env} {pos : Pos} : ∀ {es : List Expr}, (∀ v ∈ es, plainE v = true) → (backTo pos (starEach es env)).all (fun x => !x.1) = true
  | [], _ => rfl
  | e :: es, h => by
    rw [star_plain (h e List.mem_cons_self)]
    show (true && (backTo pos (starEach es env)).all (fun x => !x.1)) = true
    rw [star_all fun v hv => h v (List.mem_cons_of_mem _ hv)]
    rfl
theorem base_plain {l : Expr} {name : Str} {env : Env} (h : plainBase l = true) : attributeBase l name env (eval l env) = eval l env := by
  unfold attributeBase
  split
  · simp [plainBase] at h
  · rfl
theorem plainIx_of {r : Expr} (h : notSl r = true) : PlainIx r := by
  intro o i
  cases r <;> first | rfl | (simp [notSl] at h)
theorem l_tup {ta : TA3} {σ : L2.St} {H : Hp} {Q : VK} (h : liftE E w (eTup ta) σ H Q) : tTup (liftA E w ta) σ H Q := by
  obtain ⟨s, g, q, x, hs, hg, h, kq, kx⟩ := h
  exact ⟨s, g, _, x, hs, hg, h, fun ws g1 vs H1 hg1 r f1 h1 => ⟨by rw [r.length]; exact h1.1, fun p np => new_tup hg1 np r h1.2 (kq.at f1)⟩, kx⟩
theorem l_lst {ta : TA3} {σ : L2.St} {H : Hp} {Q : VK} (h : liftE E w (eLst ta) σ H Q) : tLst (liftA E w ta) σ H Q := by
  obtain ⟨s, g, q, x, hs, hg, h, kq, kx⟩ := h
  exact ⟨s, g, _, x, hs, hg, h, fun ws g1 vs H1 hg1 r f1 h1 => ⟨by rw [r.length]; exact h1.1, fun p np => new_lst hg1 np r h1.2 (kq.at f1)⟩, kx⟩
theorem l_dicK {σ : L2.St} {H : Hp} {Q : VK} (h : liftE E w (eDic false) σ H Q) : tDNewK σ H Q := by
  obtain ⟨s, g, q, x, hs, hg, h, kq, kx⟩ := h
  exact fun p np => kq _ _ _ _ (hg.new (o := .dic false []) np ⟨[], upd_same, rfl, .nil⟩) rv_ref (FK.new np) (h p (hg.free np))
theorem l_dicT {σ : L2.St} {H : Hp} {Q : VK} (h : liftE E w (eDic true) σ H Q) : tDNewT σ H Q := by
  obtain ⟨s, g, q, x, hs, hg, h, kq, kx⟩ := h
  exact fun p np => kq _ _ _ _ (hg.new (o := .dit false []) np ⟨[], upd_same, rfl, .nil⟩) rv_ref (FK.new np) (h p (hg.free np))
theorem l_bT {t : TE3} {σ : L2.St} {H : Hp} {Q : Bool → Hp → Prop} (h : liftT E w (bT t) σ H Q) : tB (liftE E w t) σ H Q := by
  obtain ⟨s, g, q, x, hs, hg, h, kq, kx⟩ := h
  refine ⟨s, g, _, x, hs, hg, h, fun a g1 v H1 hg1 r f1 h1 => ?_, kx⟩
  obtain ⟨b, rfl, h1⟩ := h1
  rw [RV] at r
  exact ⟨b, r, kq b g1 H1 hg1 f1 h1⟩
theorem l_tst {t : TE3} {r : R2} {ta tb : TE} (i : ∀ {σ H Q}, liftE E w t σ H Q → tOp r ta tb σ H Q) {σ : L2.St} {H : Hp} {Q : Bool → Hp → Prop} (h : liftT E w (bT t) σ H Q) : tTest (tOp r ta tb) σ H Q := i (l_bT h)
theorem l_meth {r : W → List W → G → VK3 → Prop} {ty : W → G → Prop} {T : String} {to : TE3} {ta : TA3} {K : PySem.W.Frag}
    (hty : ∀ {a : W} {v : V} {g : G} {H : Hp}, ty a g → RV E.K H a v → GR E g H → tyV K T v H)
    {σ : L2.St} {H : Hp} {Q : VK} (h : liftE E w (eM r ty to ta) σ H Q) : tBM K T (liftM E r) (liftE E w to) (liftA E w ta) σ H Q := by
  obtain ⟨s, g, q, x, hs, hg, h, kq, kx⟩ := h
  refine ⟨s, g, _, x, hs, hg, h, fun a g1 v H1 hg1 ra f1 h1 => ⟨hty h1.1 ra hg1, ?_⟩, kx⟩
  refine ⟨s, g1, _, x, hs.keep (f1.tk hg), hg1, h1.2, fun ws g2 us H2 hg2 rb f2 h2 => ?_, kx.at f1⟩
  exact ⟨a, ws, g2, q, ra.keep (f2.tk hg1), rb, hg2, h2, kq.at (f1.trans f2)⟩
theorem l_meth0 {r : W → List W → G → VK3 → Prop} {ty : W → G → Prop} {T : String} {to : TE3} {K : PySem.W.Frag}
    (hty : ∀ {a : W} {v : V} {g : G} {H : Hp}, ty a g → RV E.K H a v → GR E g H → tyV K T v H)
    {σ : L2.St} {H : Hp} {Q : VK} (h : liftE E w (eM r ty to aNil) σ H Q) : tBM0 K T (liftM E r) (liftE E w to) σ H Q := by
  obtain ⟨s, g, q, x, hs, hg, h, kq, kx⟩ := h
  exact ⟨s, g, _, x, hs, hg, h, fun a g1 v H1 hg1 ra f1 h1 => ⟨hty h1.1 ra hg1, a, [], g1, q, ra, .nil, hg1, h1.2, kq.at f1⟩, kx⟩
theorem ty_lst {K : PySem.W.Frag} {a : W} {v : V} {g : G} {H : Hp} (h : isLst a g) (r : RV E.K H a v) (hg : GR E g H) : tyV K "list" v H := by
  cases a with
  | ref p => rw [RV] at r; subst r; obtain ⟨xs, e⟩ := h; obtain ⟨ys, f, _⟩ := hg _ _ e; exact .inl ⟨rfl, ys, SqL.of f⟩
  | lv xs => rw [RV] at r; obtain ⟨p, ys, rfl, ⟨o, e⟩, _⟩ := r; exact .inl ⟨rfl, ys, .inl (.inr ⟨o, e⟩)⟩
  | _ => exact h.elim
theorem ty_str {K : PySem.W.Frag} {a : W} {v : V} {g : G} {H : Hp} (h : isStr a g) (r : RV E.K H a v) (hg : GR E g H) : tyV K "str" v H := by
  cases a with
  | str p => rw [RV] at r; subst r; exact rfl
  | _ => exact h.elim
theorem l_call {c : List W → G → XK3 → VK3 → Prop} {ta : TA3} {n : Nat} {dvs : List V} {ws : List W}
    (σ : L2.St) (H : Hp) (Q : VK) (h : liftE E w (fun x s g q => ta x s g fun ws g1 => c ws g1 x q) σ H Q) :
    liftA E w ta σ H (fun vs H1 => ∃ ws g q x, RVs E.K H1 ws vs ∧ GR E g H1 ∧ c ws g x q ∧ KQ E g H1 q Q ∧ KX E g H1 x (fun cls d H' => w cls d σ H')) := by
  obtain ⟨s, g, q, x, hs, hg, h, kq, kx⟩ := h
  exact ⟨s, g, _, x, hs, hg, h, fun ws g1 vs H1 hg1 r f1 h1 => ⟨ws, g1, q, x, r, hg1, h1, kq.at f1, kx.at f1⟩, kx⟩
theorem isTrue_plain {e : Expr} (h : specialT e = false) (env : Env) (whole : Sem Value) : isTrue e env whole = (do let v ← whole; standAt e.pos; holding [v] (truthy v)) := by
  cases e with
  | UnaryOp op x p => cases op <;> first | rfl | (simp [specialT] at h)
  | _ => first | rfl | (simp [specialT] at h)
theorem ptOf {e : Expr} {t : TE3} (h : PE X e (liftE E w t)) (hs : specialT e = false) : PT X e (liftT E w (bT t)) := ptI (pt_val h (isTrue_plain hs X.env)) fun _ _ _ => l_bT
end
end L3
set_option maxRecDepth 100000
set_option maxHeartbeats 4000000
namespace L3
open PySem PySem.Spec L2
theorem ff {p : Prop} (h : false = true) : p := absurd h Bool.false_ne_true
section
variable {X : Cx} {E : Env3} {w : WX} {CF : CF3} {gl : Gs} {ck : Ck} {x : Expr}
theorem i_var {i : Nat} (h : chk (.var i) ck x = true) : ∃ y p, x = .Name y p ∧ isVar ck i y = true := by
  cases x <;> first | exact ff h | exact ⟨_, _, rfl, h⟩
theorem i_int {i : Int} (h : chk (.int i) ck x = true) : ∃ k p, x = .Constant (.int i) k p := by
  cases x <;> first | exact ff h | skip
  rename_i c k p
  cases c <;> first | exact ff h | exact ⟨k, p, by rw [of_decide_eq_true h]⟩
theorem i_str {i : Str} (h : chk (.str i) ck x = true) : ∃ k p, x = .Constant (.str i) k p := by
  cases x <;> first | exact ff h | skip
  rename_i c k p
  cases c <;> first | exact ff h | exact ⟨k, p, by rw [of_decide_eq_true h]⟩
theorem i_bl {i : Bool} (h : chk (.bl i) ck x = true) : ∃ k p, x = .Constant (.bool i) k p := by
  cases x <;> first | exact ff h | skip
  rename_i c k p
  cases c <;> first | exact ff h | exact ⟨k, p, by rw [of_decide_eq_true h]⟩
theorem i_non (h : chk .non ck x = true) : ∃ k p, x = .Constant .none k p := by
  cases x <;> first | exact ff h | skip
  rename_i c k p
  cases c <;> first | exact ff h | exact ⟨k, p, rfl⟩
theorem i_glob {i : Nat} (h : chk (.glob i) ck x = true) : ∃ y p, x = .Name y p ∧ ck.gls[i]? = some y ∧ isGl ck y = true := by
  cases x <;> first | exact ff h | skip
  obtain ⟨h1, h2⟩ := bool_and h
  exact ⟨_, _, rfl, of_decide_eq_true h1, h2⟩
theorem i_bin {o : Bo} {a b : E3} (h : chk (.bin o a b) ck x = true) : ∃ l r p, x = .BinOp l (boOf o) r p ∧ chk a ck l = true ∧ chk b ck r = true := by
  cases x <;> first | exact ff h | skip
  obtain ⟨h, h2⟩ := bool_and h
  obtain ⟨h0, h1⟩ := bool_and h
  exact ⟨_, _, _, by rw [of_decide_eq_true h0], h1, h2⟩
theorem i_neg {a : E3} (h : chk (.neg a) ck x = true) : ∃ l p, x = .UnaryOp .USub l p ∧ chk a ck l = true := by
  cases x <;> first | exact ff h | skip
  rename_i op l p
  cases op <;> first | exact ff h | exact ⟨_, _, rfl, h⟩
theorem i_not {a : E3} (h : chk (.not a) ck x = true) : ∃ l p, x = .UnaryOp .Not l p ∧ chk a ck l = true := by
  cases x <;> first | exact ff h | skip
  rename_i op l p
  cases op <;> first | exact ff h | exact ⟨_, _, rfl, h⟩
theorem i_cmp {o : Co} {a b : E3} (h : chk (.cmp o a b) ck x = true) : ∃ l r p, x = .Compare l [coOf o] [r] p ∧ chk a ck l = true ∧ chk b ck r = true ∧ behindInMarks (coOf o) r = false := by
  cases x <;> first | exact ff h | skip
  rename_i l ops rs p
  match ops, rs, h with
  | [op], [r], h =>
    obtain ⟨h, h3⟩ := bool_and h
    obtain ⟨h, h2⟩ := bool_and h
    obtain ⟨h0, h1⟩ := bool_and h
    have e := of_decide_eq_true h0
    subst e
    exact ⟨_, _, _, rfl, h1, h2, bool_not h3⟩
  | [], _, h => exact ff h
  | [_], [], h => exact ff h
  | [_], _ :: _ :: _, h => exact ff h
  | _ :: _ :: _, _, h => exact ff h
theorem i_cmp2 {o o' : Co} {a b c : E3} (h : chk (.cmp2 o o' a b c) ck x = true) : ∃ l r r' p, x = .Compare l [coOf o, coOf o'] [r, r'] p ∧ chk a ck l = true ∧ chk b ck r = true ∧ chk c ck r' = true ∧ behindInMarks (coOf o') r' = false := by
  cases x <;> first | exact ff h | skip
  rename_i l ops rs p
  match ops, rs, h with
  | [op, op'], [r, r'], h =>
    obtain ⟨h, h5⟩ := bool_and h
    obtain ⟨h, h4⟩ := bool_and h
    obtain ⟨h, h3⟩ := bool_and h
    obtain ⟨h, h2⟩ := bool_and h
    obtain ⟨h0, h1⟩ := bool_and h
    have e := of_decide_eq_true h0
    subst e
    have e := of_decide_eq_true h1
    subst e
    exact ⟨_, _, _, _, rfl, h2, h3, h4, bool_not h5⟩
  | [], _, h => exact ff h
  | [_], _, h => exact ff h
  | [_, _], [], h => exact ff h
  | [_, _], [_], h => exact ff h
  | [_, _], _ :: _ :: _ :: _, h => exact ff h
  | _ :: _ :: _ :: _, _, h => exact ff h
theorem i_cmp3 {o o' o'' : Co} {a b c d : E3} (h : chk (.cmp3 o o' o'' a b c d) ck x = true) : ∃ l r r' r'' p, x = .Compare l [coOf o, coOf o', coOf o''] [r, r', r''] p ∧ chk a ck l = true ∧ chk b ck r = true ∧ chk c ck r' = true ∧ chk d ck r'' = true ∧ behindInMarks (coOf o'') r'' = false := by
  cases x <;> first | exact ff h | skip
  rename_i l ops rs p
  match ops, rs, h with
  | [op, op', op''], [r, r', r''], h =>
    obtain ⟨h, h7⟩ := bool_and h
    obtain ⟨h, h6⟩ := bool_and h
    obtain ⟨h, h5⟩ := bool_and h
    obtain ⟨h, h4⟩ := bool_and h
    obtain ⟨h, h3⟩ := bool_and h
    obtain ⟨h, h2⟩ := bool_and h
    obtain ⟨h0, h1⟩ := bool_and h
    have e := of_decide_eq_true h0
    subst e
    have e := of_decide_eq_true h1
    subst e
    have e := of_decide_eq_true h2
    subst e
    exact ⟨_, _, _, _, _, rfl, h3, h4, h5, h6, bool_not h7⟩
  | [], _, h => exact ff h
  | [_], _, h => exact ff h
  | [_, _], _, h => exact ff h
  | [_, _, _], [], h => exact ff h
  | [_, _, _], [_], h => exact ff h
  | [_, _, _], [_, _], h => exact ff h
  | [_, _, _], _ :: _ :: _ :: _ :: _, h => exact ff h
  | _ :: _ :: _ :: _ :: _, _, h => exact ff h
theorem i_and {es : Es3} (h : chk (.and es) ck x = true) : ∃ vs p, x = .BoolOp .And vs p ∧ chks es ck vs = true := by
  cases x <;> first | exact ff h | skip
  rename_i op l p
  cases op <;> first | exact ff h | exact ⟨_, _, rfl, h⟩
theorem i_or {es : Es3} (h : chk (.or es) ck x = true) : ∃ vs p, x = .BoolOp .Or vs p ∧ chks es ck vs = true := by
  cases x <;> first | exact ff h | skip
  rename_i op l p
  cases op <;> first | exact ff h | exact ⟨_, _, rfl, h⟩
theorem i_ite {a b c : E3} (h : chk (.ite c a b) ck x = true) : ∃ t l r p, x = .IfExp t l r p ∧ chk c ck t = true ∧ chk a ck l = true ∧ chk b ck r = true := by
  cases x <;> first | exact ff h | skip
  obtain ⟨h, h2⟩ := bool_and h
  obtain ⟨h0, h1⟩ := bool_and h
  exact ⟨_, _, _, _, rfl, h0, h1, h2⟩
theorem i_lst {es : Es3} (h : chk (.lst es) ck x = true) : ∃ vs p, x = .List vs p ∧ chks es ck vs = true := by
  cases x <;> first | exact ff h | exact ⟨_, _, rfl, h⟩
theorem i_tup {es : Es3} (h : chk (.tup es) ck x = true) : ∃ vs k p, x = .Tuple vs k p ∧ chks es ck vs = true := by
  cases x <;> first | exact ff h | exact ⟨_, _, _, rfl, h⟩
theorem i_dic {t : Bool} (h : chk (.dic t) ck x = true) : ∃ p, x = .Dict [] [] p := by
  cases x <;> first | exact ff h | skip
  rename_i ks vs p
  match ks, vs, h with
  | [], [], _ => exact ⟨_, rfl⟩
  | _ :: _, _, h => exact ff h
  | [], _ :: _, h => exact ff h
theorem i_ix {a i : E3} (h : chk (.ix a i) ck x = true) : ∃ l r p, x = .Subscript l r p ∧ chk a ck l = true ∧ chk i ck r = true ∧ notSl r = true := by
  cases x <;> first | exact ff h | skip
  obtain ⟨h, h2⟩ := bool_and h
  obtain ⟨h0, h1⟩ := bool_and h
  exact ⟨_, _, _, rfl, h0, h1, h2⟩
theorem i_sl {a : E3} {lo hi : O3} (h : chk (.sl a lo hi) ck x = true) : ∃ l l1 l2 q p, x = .Subscript l (.Slice l1 l2 none q) p ∧ chk a ck l = true ∧ chko lo ck l1 = true ∧ chko hi ck l2 = true := by
  cases x <;> first | exact ff h | skip
  rename_i l r p
  cases r <;> first | exact ff h | skip
  rename_i l1 l2 st q
  match st, h with
  | none, h =>
    obtain ⟨h, h2⟩ := bool_and h
    obtain ⟨h0, h1⟩ := bool_and h
    exact ⟨_, _, _, _, _, rfl, h0, h1, h2⟩
  | some _, h => exact ff h
theorem i_call {f : Nat} {es : Es3} (h : chk (.call f es) ck x = true) : ∃ y q vs p, x = .Call (.Name y q) vs [] p ∧ ck.P[f]? = some y ∧ isGl ck y = true ∧ chks es ck vs = true ∧ ck.hot = false := by
  cases x <;> first | exact ff h | skip
  rename_i fn vs kw p
  cases fn <;> first | exact ff h | skip
  match kw, h with
  | [], h =>
    obtain ⟨h, h9⟩ := bool_and h
    obtain ⟨h, h2⟩ := bool_and h
    obtain ⟨h0, h1⟩ := bool_and h
    exact ⟨_, _, _, _, rfl, of_decide_eq_true h0, h1, h2, bool_not h9⟩
  | _ :: _, h => exact ff h
theorem i_prim {f : Pr} {es : Es3} (h : chk (.prim f es) ck x = true) : ∃ q v vs p, x = .Call (.Name (prOf f).1 q) (v :: vs) [] p ∧ isGl ck (prOf f).1 = true ∧ chks es ck (v :: vs) = true ∧ (ck.hot = false ∨ hotPr f = true) := by
  cases x <;> first | exact ff h | skip
  rename_i fn vs kw p
  cases fn <;> first | exact ff h | skip
  match vs, kw, h with
  | v :: vs, [], h =>
    obtain ⟨h, h9⟩ := bool_and h
    obtain ⟨h, h2⟩ := bool_and h
    obtain ⟨h0, h1⟩ := bool_and h
    have e := of_decide_eq_true h0
    subst e
    exact ⟨_, _, _, _, rfl, h1, h2, (Bool.or_eq_true_iff.mp h9).imp (fun z => bool_not z) id⟩
  | [], _, h => exact ff h
  | _ :: _, _ :: _, h => exact ff h
theorem i_meth {m : Mt} {o : E3} {es : Es3} (h : chk (.meth m o es) ck x = true) : ∃ l q vs p, x = .Call (.Attribute l (mtOf m) q) vs [] p ∧ plainBase l = true ∧ (q.endLine == p.line) = true ∧ chk o ck l = true ∧ chks es ck vs = true ∧ vs.length < 20 := by
  cases x <;> first | exact ff h | skip
  rename_i fn vs kw p
  cases fn <;> first | exact ff h | skip
  match kw, h with
  | [], h =>
    obtain ⟨h, h5⟩ := bool_and h
    obtain ⟨h, h4⟩ := bool_and h
    obtain ⟨h, h3⟩ := bool_and h
    obtain ⟨h, h2⟩ := bool_and h
    obtain ⟨h0, h1⟩ := bool_and h
    have e := of_decide_eq_true h0
    subst e
    exact ⟨_, _, _, _, rfl, h1, h2, h3, h4, of_decide_eq_true h5⟩
  | _ :: _, h => exact ff h
theorem i_isi {a : E3} {T : String} (h : chk (.isi a T) ck x = true) : ∃ q l q' p, x = .Call (.Name "isinstance" q) [l, .Name (Str.ofString T) q'] [] p ∧ isGl ck "isinstance" = true ∧ isGl ck (Str.ofString T) = true ∧ T ∈ tySome ∧ chk a ck l = true := by
  cases x <;> first | exact ff h | skip
  rename_i fn vs kw p
  cases fn <;> first | exact ff h | skip
  match vs, h with
  | [], h => exact ff h
  | [_], h => exact ff h
  | _ :: y :: _ :: _, h => cases y <;> exact ff h
  | [l, y], h =>
    cases y <;> first | exact ff h | skip
    match kw, h with
    | _ :: _, h => exact ff h
    | [], h =>
      obtain ⟨h, h5⟩ := bool_and h
      obtain ⟨h, h4⟩ := bool_and h
      obtain ⟨h, h3⟩ := bool_and h
      obtain ⟨h, h2⟩ := bool_and h
      obtain ⟨h0, h1⟩ := bool_and h
      have e := of_decide_eq_true h0
      subst e
      have e := of_decide_eq_true h2
      subst e
      exact ⟨_, _, _, _, rfl, h1, h3, of_decide_eq_true h4, h5⟩
theorem i_xattr {i : Nat} {f : Str} (h : chk (.xattr i f) ck x = true) : ∃ n q p, x = .Attribute (.Name n q) f p ∧ isVar ck i n = true ∧ f ∈ ck.xfl ∧ ck.hot = true := by
  cases x <;> first | exact ff h | skip
  rename_i l nm p
  cases l <;> first | exact ff h | skip
  obtain ⟨h, h3⟩ := bool_and h
  obtain ⟨h, h2⟩ := bool_and h
  obtain ⟨h0, h1⟩ := bool_and h
  have e := of_decide_eq_true h0
  subst e
  exact ⟨_, _, _, rfl, h1, of_decide_eq_true h2, h3⟩
theorem i_hcall {f : Nat} {es : Es3} (h : chk (.hcall f es) ck x = true) : ∃ y q v vs p, x = .Call (.Name y q) (v :: vs) [] p ∧ ck.hP[f]? = some (some y) ∧ isGl ck y = true ∧ chks es ck (v :: vs) = true ∧ ck.hot = true ∧ ck.inDef = true := by
  cases x <;> first | exact ff h | skip
  rename_i fn vs kw p
  cases fn <;> first | exact ff h | skip
  match vs, kw, h with
  | v :: vs, [], h =>
    obtain ⟨h, h4⟩ := bool_and h
    obtain ⟨h, h3⟩ := bool_and h
    obtain ⟨h, h2⟩ := bool_and h
    obtain ⟨h0, h1⟩ := bool_and h
    exact ⟨_, _, _, _, _, rfl, of_decide_eq_true h0, h1, h2, h3, h4⟩
  | [], _, h => exact ff h
  | _ :: _, _ :: _, h => exact ff h
theorem i_isxs {i : Nat} {ys : List (Str × List Bool)} (h : chk (.isxs i ys) ck x = true) : ∃ q n q1 es k q2 p, x = .Call (.Name "isinstance" q) [.Name n q1, .Tuple es k q2] [] p ∧ isGl ck "isinstance" = true ∧ isVar ck i n = true ∧ clsNs ck ys es = true ∧ (0 < ys.length ∧ ys.length < 100) ∧ ck.hot = true := by
  have h : (match isxOf x with
    | some (x, n, es) => decide (x = ("isinstance" : Str)) && (isGl ck x && (isVar ck i n && (clsNs ck ys es && (decide (0 < ys.length ∧ ys.length < 100) && ck.hot))))
    | none => false) = true := by
    cases x <;> exact h
  split at h
  · rename_i z n es e
    obtain ⟨q, q1, k, q2, p, rfl⟩ := isxOf_inv e
    obtain ⟨h1, h⟩ := bool_and h
    obtain ⟨h2, h⟩ := bool_and h
    obtain ⟨h3, h⟩ := bool_and h
    obtain ⟨h4, h⟩ := bool_and h
    obtain ⟨h5, h6⟩ := bool_and h
    have h1 := of_decide_eq_true h1
    subst h1
    exact ⟨q, n, q1, es, k, q2, p, rfl, h2, h3, h4, of_decide_eq_true h5, h6⟩
  · cases h
theorem i_isx {i : Nat} {y : Str} {row : List Bool} (h : chk (.isx i y row) ck x = true) : ∃ q n q1 q' p, x = .Call (.Name "isinstance" q) [.Name n q1, .Name y q'] [] p ∧ isGl ck "isinstance" = true ∧ isGl ck y = true ∧ isVar ck i n = true ∧ (y, row) ∈ ck.cs ∧ ck.hot = true := by
  cases x <;> first | exact ff h | skip
  rename_i fn vs kw p
  cases fn <;> first | exact ff h | skip
  match vs, h with
  | [], h => exact ff h
  | [a], h => cases a <;> exact ff h
  | a :: b :: _ :: _, h => cases a <;> cases b <;> exact ff h
  | [a, b], h =>
    cases a <;> first | exact ff h | skip
    cases b <;> first | exact ff h | skip
    match kw, h with
    | _ :: _, h => exact ff h
    | [], h =>
      obtain ⟨h, h6⟩ := bool_and h
      obtain ⟨h, h5⟩ := bool_and h
      obtain ⟨h, h4⟩ := bool_and h
      obtain ⟨h, h3⟩ := bool_and h
      obtain ⟨h, h2⟩ := bool_and h
      obtain ⟨h0, h1⟩ := bool_and h
      have e := of_decide_eq_true h0
      subst e
      have e := of_decide_eq_true h2
      subst e
      exact ⟨_, _, _, _, _, rfl, h1, h3, h4, of_decide_eq_true h5, h6⟩
theorem i_lc {elt : E3} {tg : T3} {it : I3} {c : O3} {own : List Nat} (h : chk (.lc elt tg it c own) ck x = true) : ∃ e tg' it' ifs scope p, x = .ListComp e [⟨tg', it', ifs, 0⟩] scope p ∧
    blkC ck.N ck.sc scope (own.filterMap fun i => ck.N[i]?.map fun x => (x, i)) = true ∧ (∀ i ∈ tIs tg, i ∈ own) ∧ (∀ i ∈ own, i < ck.N.length) ∧ (tIs tg).Nodup ∧ chki it ck (isTupE tg') it' = true ∧
    chkT (ck.inner scope) tg tg' = true ∧ chk elt (ck.inner scope) e = true ∧ chkc c (ck.inner scope) ifs = true ∧ ck.hot = false := by
  cases x <;> first | exact ff h | skip
  rename_i e gens scope p
  match gens, h with
  | [⟨tg', it', ifs, 0⟩], h =>
    obtain ⟨h, h9⟩ := bool_and h
    obtain ⟨h, h8⟩ := bool_and h
    obtain ⟨h, h7⟩ := bool_and h
    obtain ⟨h, h6⟩ := bool_and h
    obtain ⟨h, h5⟩ := bool_and h
    obtain ⟨h, h4⟩ := bool_and h
    obtain ⟨h, h3⟩ := bool_and h
    obtain ⟨h1, h2⟩ := bool_and h
    exact ⟨_, _, _, _, _, _, rfl, h1, fun i hi => of_decide_eq_true (List.all_eq_true.mp h2 i hi), fun i hi => of_decide_eq_true (List.all_eq_true.mp h3 i hi), of_decide_eq_true h4, h5, h6, h7, h8, bool_not h9⟩
  | [], h => exact ff h
  | ⟨_, _, _, .ofNat 0⟩ :: _ :: _, h => exact ff h
  | ⟨_, _, _, .ofNat (n + 1)⟩ :: _ :: _, h => exact ff h
  | ⟨_, _, _, .negSucc n⟩ :: _ :: _, h => exact ff h
  | [⟨_, _, _, .ofNat (n + 1)⟩], h => exact ff h
  | [⟨_, _, _, .negSucc n⟩], h => exact ff h
theorem i_lcK {elt : E3} {tg : T3} {it : I3} {c : O3} {own : List Nat} (h : chk (.lcK elt tg it c own) ck x = true) : ∃ e tg' it' ifs scope p, x = .ListComp e [⟨tg', it', ifs, 0⟩] scope p ∧
    blkC ck.N ck.sc scope (own.filterMap fun i => ck.N[i]?.map fun x => (x, i)) = true ∧ (∀ i ∈ tIs tg, i ∈ own) ∧ (∀ i ∈ own, i < ck.N.length) ∧ (tIs tg).Nodup ∧ chki it ck (isTupE tg') it' = true ∧
    chkT (ck.inner scope) tg tg' = true ∧ chk elt (ck.inner scope) e = true ∧ chkc c (ck.inner scope) ifs = true ∧ ck.hot = false := by
  cases x <;> first | exact ff h | skip
  rename_i e gens scope p
  match gens, h with
  | [⟨tg', it', ifs, 0⟩], h =>
    obtain ⟨h, h9⟩ := bool_and h
    obtain ⟨h, h8⟩ := bool_and h
    obtain ⟨h, h7⟩ := bool_and h
    obtain ⟨h, h6⟩ := bool_and h
    obtain ⟨h, h5⟩ := bool_and h
    obtain ⟨h, h4⟩ := bool_and h
    obtain ⟨h, h3⟩ := bool_and h
    obtain ⟨h1, h2⟩ := bool_and h
    exact ⟨_, _, _, _, _, _, rfl, h1, fun i hi => of_decide_eq_true (List.all_eq_true.mp h2 i hi), fun i hi => of_decide_eq_true (List.all_eq_true.mp h3 i hi), of_decide_eq_true h4, h5, h6, h7, h8, bool_not h9⟩
  | [], h => exact ff h
  | ⟨_, _, _, .ofNat 0⟩ :: _ :: _, h => exact ff h
  | ⟨_, _, _, .ofNat (n + 1)⟩ :: _ :: _, h => exact ff h
  | ⟨_, _, _, .negSucc n⟩ :: _ :: _, h => exact ff h
  | [⟨_, _, _, .ofNat (n + 1)⟩], h => exact ff h
  | [⟨_, _, _, .negSucc n⟩], h => exact ff h
theorem i_dget1 {o e : E3} (h : chk (.dget1 o e) ck x = true) : ∃ l q v p, x = .Call (.Attribute l "get" q) [v] [] p ∧ plainBase l = true ∧ (q.endLine == p.line) = true ∧ chk o ck l = true ∧ chk e ck v = true ∧ plainE v = true := by
  cases x <;> first | exact ff h | skip
  rename_i fn vs kw p
  cases fn <;> first | exact ff h | skip
  match vs, kw, h with
  | [v], [], h =>
    obtain ⟨h, h5⟩ := bool_and h
    obtain ⟨h, h4⟩ := bool_and h
    obtain ⟨h, h3⟩ := bool_and h
    obtain ⟨h, h2⟩ := bool_and h
    obtain ⟨h0, h1⟩ := bool_and h
    have e := of_decide_eq_true h0
    subst e
    exact ⟨_, _, _, _, rfl, h1, h2, h3, h4, h5⟩
  | [], _, h => exact ff h
  | [_], _ :: _, h => exact ff h
  | _ :: _ :: _, _, h => exact ff h
theorem i_dpop1 {o e : E3} (h : chk (.dpop1 o e) ck x = true) : ∃ l q v p, x = .Call (.Attribute l "pop" q) [v] [] p ∧ plainBase l = true ∧ (q.endLine == p.line) = true ∧ chk o ck l = true ∧ chk e ck v = true ∧ plainE v = true := by
  cases x <;> first | exact ff h | skip
  rename_i fn vs kw p
  cases fn <;> first | exact ff h | skip
  match vs, kw, h with
  | [v], [], h =>
    obtain ⟨h, h5⟩ := bool_and h
    obtain ⟨h, h4⟩ := bool_and h
    obtain ⟨h, h3⟩ := bool_and h
    obtain ⟨h, h2⟩ := bool_and h
    obtain ⟨h0, h1⟩ := bool_and h
    have e := of_decide_eq_true h0
    subst e
    exact ⟨_, _, _, _, rfl, h1, h2, h3, h4, h5⟩
  | [], _, h => exact ff h
  | [_], _ :: _, h => exact ff h
  | _ :: _ :: _, _, h => exact ff h
theorem i_dget2 {o e d : E3} (h : chk (.dget2 o e d) ck x = true) : ∃ l q v u p, x = .Call (.Attribute l "get" q) [v, u] [] p ∧ plainBase l = true ∧ (q.endLine == p.line) = true ∧ chk o ck l = true ∧ chk e ck v = true ∧ chk d ck u = true ∧ plainE v = true ∧ plainE u = true := by
  cases x <;> first | exact ff h | skip
  rename_i fn vs kw p
  cases fn <;> first | exact ff h | skip
  match vs, kw, h with
  | [v, u], [], h =>
    obtain ⟨h, h7⟩ := bool_and h
    obtain ⟨h, h6⟩ := bool_and h
    obtain ⟨h, h5⟩ := bool_and h
    obtain ⟨h, h4⟩ := bool_and h
    obtain ⟨h, h3⟩ := bool_and h
    obtain ⟨h, h2⟩ := bool_and h
    obtain ⟨h0, h1⟩ := bool_and h
    have e := of_decide_eq_true h0
    subst e
    exact ⟨_, _, _, _, _, rfl, h1, h2, h3, h4, h5, h6, h7⟩
  | [], _, h => exact ff h
  | [_], _, h => exact ff h
  | [_, _], _ :: _, h => exact ff h
  | _ :: _ :: _ :: _, _, h => exact ff h
theorem i_dsetd {o e d : E3} (h : chk (.dsetd o e d) ck x = true) : ∃ l q v u p, x = .Call (.Attribute l "setdefault" q) [v, u] [] p ∧ plainBase l = true ∧ (q.endLine == p.line) = true ∧ chk o ck l = true ∧ chk e ck v = true ∧ chk d ck u = true ∧ plainE v = true ∧ plainE u = true := by
  cases x <;> first | exact ff h | skip
  rename_i fn vs kw p
  cases fn <;> first | exact ff h | skip
  match vs, kw, h with
  | [v, u], [], h =>
    obtain ⟨h, h7⟩ := bool_and h
    obtain ⟨h, h6⟩ := bool_and h
    obtain ⟨h, h5⟩ := bool_and h
    obtain ⟨h, h4⟩ := bool_and h
    obtain ⟨h, h3⟩ := bool_and h
    obtain ⟨h, h2⟩ := bool_and h
    obtain ⟨h0, h1⟩ := bool_and h
    have e := of_decide_eq_true h0
    subst e
    exact ⟨_, _, _, _, _, rfl, h1, h2, h3, h4, h5, h6, h7⟩
  | [], _, h => exact ff h
  | [_], _, h => exact ff h
  | [_, _], _ :: _, h => exact ff h
  | _ :: _ :: _ :: _, _, h => exact ff h
theorem i_dpop2 {o e d : E3} (h : chk (.dpop2 o e d) ck x = true) : ∃ l q v u p, x = .Call (.Attribute l "pop" q) [v, u] [] p ∧ plainBase l = true ∧ (q.endLine == p.line) = true ∧ chk o ck l = true ∧ chk e ck v = true ∧ chk d ck u = true ∧ plainE v = true ∧ plainE u = true := by
  cases x <;> first | exact ff h | skip
  rename_i fn vs kw p
  cases fn <;> first | exact ff h | skip
  match vs, kw, h with
  | [v, u], [], h =>
    obtain ⟨h, h7⟩ := bool_and h
    obtain ⟨h, h6⟩ := bool_and h
    obtain ⟨h, h5⟩ := bool_and h
    obtain ⟨h, h4⟩ := bool_and h
    obtain ⟨h, h3⟩ := bool_and h
    obtain ⟨h, h2⟩ := bool_and h
    obtain ⟨h0, h1⟩ := bool_and h
    have e := of_decide_eq_true h0
    subst e
    exact ⟨_, _, _, _, _, rfl, h1, h2, h3, h4, h5, h6, h7⟩
  | [], _, h => exact ff h
  | [_], _, h => exact ff h
  | [_, _], _ :: _, h => exact ff h
  | _ :: _ :: _ :: _, _, h => exact ff h
theorem i_mxd {mn : Bool} {a d : E3} (h : chk (.mxd mn a d) ck x = true) : ∃ q v u kp p, x = .Call (.Name (if mn = true then ("min" : Str) else ("max" : Str)) q) [v] [⟨some "default", u, kp⟩] p ∧ isGl ck (if mn = true then ("min" : Str) else ("max" : Str)) = true ∧ chk a ck v = true ∧ chk d ck u = true ∧ plainE v = true ∧ ck.hot = false := by
  cases x <;> first | exact ff h | skip
  rename_i fn vs kw p
  cases fn <;> first | exact ff h | skip
  match vs, kw, h with
  | [v], [⟨some k, u, kp⟩], h =>
    obtain ⟨h, h7⟩ := bool_and h
    obtain ⟨h, h6⟩ := bool_and h
    obtain ⟨h, h5⟩ := bool_and h
    obtain ⟨h, h4⟩ := bool_and h
    obtain ⟨h, h3⟩ := bool_and h
    obtain ⟨h0, h1⟩ := bool_and h
    have e := of_decide_eq_true h0
    subst e
    have e := of_decide_eq_true h3
    subst e
    exact ⟨_, _, _, _, _, rfl, h1, h4, h5, h6, bool_not h7⟩
  | [_], [⟨none, _, _⟩], h => exact ff h
  | [], _, h => exact ff h
  | [_], [], h => exact ff h
  | [_], ⟨some _, _, _⟩ :: _ :: _, h => exact ff h
  | [_], ⟨none, _, _⟩ :: _ :: _, h => exact ff h
  | _ :: _ :: _, _, h => exact ff h
theorem i_lrev {a : E3} (h : chk (.lrev a) ck x = true) : ∃ q q2 v p2 p, x = .Call (.Name "list" q) [.Call (.Name "reversed" q2) [v] [] p2] [] p ∧ isGl ck "list" = true ∧ isGl ck "reversed" = true ∧ chk a ck v = true ∧ plainE v = true ∧ ck.hot = false := by
  have h' : (match lrevOf x with
    | some (x, y, v) => decide (x = ("list" : Str)) && isGl ck x && decide (y = ("reversed" : Str)) && isGl ck y && chk a ck v && plainE v && !ck.hot
    | none => false) = true := h
  cases e : lrevOf x with
  | none => rw [e] at h'; exact ff h'
  | some t =>
    obtain ⟨x1, y, v⟩ := t
    rw [e] at h'
    obtain ⟨q, q2, p2, p, rfl⟩ := lrevOf_inv e
    obtain ⟨h, h6⟩ := bool_and h'
    obtain ⟨h, h5⟩ := bool_and h
    obtain ⟨h, h4⟩ := bool_and h
    obtain ⟨h, h3⟩ := bool_and h
    obtain ⟨h, h2⟩ := bool_and h
    obtain ⟨h0, h1⟩ := bool_and h
    have e := of_decide_eq_true h0
    subst e
    have e := of_decide_eq_true h2
    subst e
    exact ⟨_, _, _, _, _, rfl, h1, h3, h4, h5, bool_not h6⟩
theorem i_lset {a : E3} (h : chk (.lset a) ck x = true) : ∃ q q2 v p2 p, x = .Call (.Name "len" q) [.Call (.Name "set" q2) [v] [] p2] [] p ∧ isGl ck "len" = true ∧ isGl ck "set" = true ∧ chk a ck v = true ∧ plainE v = true ∧ ck.hot = false := by
  have h' : (match lrevOf x with
    | some (x, y, v) => decide (x = ("len" : Str)) && isGl ck x && decide (y = ("set" : Str)) && isGl ck y && chk a ck v && plainE v && !ck.hot
    | none => false) = true := h
  cases e : lrevOf x with
  | none => rw [e] at h'; exact ff h'
  | some t =>
    obtain ⟨x1, y, v⟩ := t
    rw [e] at h'
    obtain ⟨q, q2, p2, p, rfl⟩ := lrevOf_inv e
    obtain ⟨h, h6⟩ := bool_and h'
    obtain ⟨h, h5⟩ := bool_and h
    obtain ⟨h, h4⟩ := bool_and h
    obtain ⟨h, h3⟩ := bool_and h
    obtain ⟨h, h2⟩ := bool_and h
    obtain ⟨h0, h1⟩ := bool_and h
    have e := of_decide_eq_true h0
    subst e
    have e := of_decide_eq_true h2
    subst e
    exact ⟨_, _, _, _, _, rfl, h1, h3, h4, h5, bool_not h6⟩
theorem i_sset {a : E3} (h : chk (.sset a) ck x = true) : ∃ q q2 v p2 p, x = .Call (.Name "sorted" q) [.Call (.Name "set" q2) [v] [] p2] [] p ∧ isGl ck "sorted" = true ∧ isGl ck "set" = true ∧ chk a ck v = true ∧ plainE v = true ∧ ck.hot = false := by
  have h' : (match lrevOf x with
    | some (x, y, v) => decide (x = ("sorted" : Str)) && isGl ck x && decide (y = ("set" : Str)) && isGl ck y && chk a ck v && plainE v && !ck.hot
    | none => false) = true := h
  cases e : lrevOf x with
  | none => rw [e] at h'; exact ff h'
  | some t =>
    obtain ⟨x1, y, v⟩ := t
    rw [e] at h'
    obtain ⟨q, q2, p2, p, rfl⟩ := lrevOf_inv e
    obtain ⟨h, h6⟩ := bool_and h'
    obtain ⟨h, h5⟩ := bool_and h
    obtain ⟨h, h4⟩ := bool_and h
    obtain ⟨h, h3⟩ := bool_and h
    obtain ⟨h, h2⟩ := bool_and h
    obtain ⟨h0, h1⟩ := bool_and h
    have e := of_decide_eq_true h0
    subst e
    have e := of_decide_eq_true h2
    subst e
    exact ⟨_, _, _, _, _, rfl, h1, h3, h4, h5, bool_not h6⟩
theorem i_dic1 {k v : E3} (h : chk (.dic1 k v) ck x = true) : ∃ a b p, x = .Dict [some a] [b] p ∧ chk k ck a = true ∧ chk v ck b = true := by
  cases x <;> first | exact ff h | skip
  rename_i ks vs p
  match ks, vs, h with
  | [some a], [b], h => obtain ⟨h1, h2⟩ := bool_and h; exact ⟨_, _, _, rfl, h1, h2⟩
  | [], _, h => exact ff h
  | [none], _, h => exact ff h
  | [some _], [], h => exact ff h
  | [some _], _ :: _ :: _, h => exact ff h
  | some _ :: _ :: _, _, h => exact ff h
  | none :: _ :: _, _, h => exact ff h
theorem i_dic2 {k v k2 v2 : E3} (h : chk (.dic2 k v k2 v2) ck x = true) : ∃ a b a2 b2 p, x = .Dict [some a, some a2] [b, b2] p ∧ chk k ck a = true ∧ chk v ck b = true ∧ chk k2 ck a2 = true ∧ chk v2 ck b2 = true := by
  cases x <;> first | exact ff h | skip
  rename_i ks vs p
  match ks, vs, h with
  | [some a, some a2], [b, b2], h =>
    obtain ⟨h, h4⟩ := bool_and h
    obtain ⟨h, h3⟩ := bool_and h
    obtain ⟨h1, h2⟩ := bool_and h
    exact ⟨_, _, _, _, _, rfl, h1, h2, h3, h4⟩
  | [], _, h => exact ff h
  | [none], _, h => exact ff h
  | [some _], _, h => exact ff h
  | none :: _ :: _, _, h => exact ff h
  | some _ :: none :: _, _, h => exact ff h
  | some _ :: some _ :: _ :: _, _, h => exact ff h
  | [some _, some _], [], h => exact ff h
  | [some _, some _], [_], h => exact ff h
  | [some _, some _], _ :: _ :: _ :: _, h => exact ff h
theorem i_frz {e : E3} (h : chk (.frz e) ck x = true) : specialT x = false ∧ chk e ck x = true := by
  have h' : (!(specialT x) && chk e ck x) = true := by cases x <;> exact h
  obtain ⟨h1, h2⟩ := bool_and h'
  exact ⟨bool_not h1, h2⟩
theorem i_attr {o : E3} {f : Str} (h : chk (.attr o f) ck x = true) : ∃ l p, x = .Attribute l f p ∧ plainBase l = true ∧ f ∈ ck.fl ∧ chk o ck l = true := by
  cases x <;> first | exact ff h | skip
  rename_i l name p
  obtain ⟨h, h4⟩ := bool_and h
  obtain ⟨h, h3⟩ := bool_and h
  obtain ⟨h1, h2⟩ := bool_and h
  have e := of_decide_eq_true h1
  subst e
  exact ⟨_, _, rfl, h2, of_decide_eq_true h3, h4⟩
theorem i_mcall {o : E3} {m : Str} {es : Es3} (h : chk (.mcall o m es) ck x = true) : ∃ l q vs p, x = .Call (.Attribute l m q) vs [] p ∧ plainBase l = true ∧ (q.endLine == p.line) = true ∧ m ∉ ck.fl ∧ chk o ck l = true ∧ chks es ck vs = true ∧ vs.length < 20 ∧ ck.hot = false := by
  cases x <;> first | exact ff h | skip
  rename_i fn vs kw p
  cases fn <;> first | exact ff h | skip
  match kw, h with
  | [], h =>
    obtain ⟨h, h8⟩ := bool_and h
    obtain ⟨h, h7⟩ := bool_and h
    obtain ⟨h, h6⟩ := bool_and h
    obtain ⟨h, h5⟩ := bool_and h
    obtain ⟨h, h4⟩ := bool_and h
    obtain ⟨h, h3⟩ := bool_and h
    obtain ⟨h1, h2⟩ := bool_and h
    have e := of_decide_eq_true h1
    subst e
    exact ⟨_, _, _, _, rfl, h2, h3, of_decide_eq_true h4, h5, h6, of_decide_eq_true h7, bool_not h8⟩
  | _ :: _, h => exact ff h
theorem i_new {c f : Nat} {es : Es3} (h : chk (.new c f es) ck x = true) : ∃ y q vs p oc, x = .Call (.Name y q) vs [] p ∧ ck.ocs[c]? = some oc ∧ oc.name = y ∧ oc.init = f ∧ isGl ck y = true ∧ chks es ck vs = true ∧ ck.hot = false := by
  cases x <;> first | exact ff h | skip
  rename_i fn vs kw p
  cases fn <;> first | exact ff h | skip
  rename_i y q
  match kw, h with
  | [], h =>
    have h' : ((match ck.ocs[c]? with | some oc => decide (oc.name = y) && decide (oc.init = f) | none => false) && isGl ck y && chks es ck vs && !ck.hot) = true := by cases vs <;> exact h
    obtain ⟨h, h4⟩ := bool_and h'
    obtain ⟨h, h3⟩ := bool_and h
    obtain ⟨h1, h2⟩ := bool_and h
    split at h1
    · rename_i oc e
      obtain ⟨k1, k2⟩ := bool_and h1
      exact ⟨_, _, _, _, oc, rfl, e, of_decide_eq_true k1, of_decide_eq_true k2, h2, h3, bool_not h4⟩
    · cases h1
  | _ :: _, h => cases vs <;> exact ff h
theorem i_fmt {e : E3} (h : chk (.fmt e) ck x = true) : ∃ v p, x = .FormattedValue v (-1) none p ∧ chk e ck v = true := by
  cases x <;> first | exact ff h | skip
  rename_i v k sp p
  match k, sp, h with
  | -1, none, h => exact ⟨_, _, rfl, h⟩
  | -1, some _, h => exact ff h
  | .ofNat _, none, h => exact ff h
  | .ofNat _, some _, h => exact ff h
  | .negSucc (n + 1), none, h => exact ff h
  | .negSucc (n + 1), some _, h => exact ff h
theorem i_fstr {es : Es3} (h : chk (.fstr es) ck x = true) : ∃ v1 v2 vs p, x = .JoinedStr (v1 :: v2 :: vs) p ∧ chkf es ck (v1 :: v2 :: vs) = true := by
  cases x <;> first | exact ff h | skip
  rename_i vs p
  match vs, h with
  | v1 :: v2 :: vs, h => exact ⟨_, _, _, _, rfl, h⟩
  | [], h => exact ff h
  | [_], h => exact ff h
theorem i_nev (h : chk .nev ck x = true) : specialT x = false ∧ plainE x = true := by
  have h' : (!(specialT x) && plainE x && nevOk x) = true := by cases x <;> exact h
  obtain ⟨h, _⟩ := bool_and h'
  obtain ⟨h1, h2⟩ := bool_and h
  exact ⟨bool_not h1, h2⟩
theorem i_ccall {c f : Nat} {m : Str} {es : Es3} (h : chk (.ccall c f m es) ck x = true) : ∃ y q apos v vs p oc, x = .Call (.Attribute (.Name y q) "__init__" apos) (v :: vs) [] p ∧ ck.ocs[c]? = some oc ∧ oc.name = y ∧ oc.init = f ∧ isGl ck y = true ∧ (apos.endLine == p.line) = true ∧ chks es ck (v :: vs) = true ∧ (v :: vs).length < 20 ∧ ck.hot = false := by
  cases x <;> first | exact ff h | skip
  rename_i fn vs kw p
  cases fn <;> first | exact ff h | skip
  rename_i l name apos
  cases l <;> first | exact ff h | skip
  rename_i y q
  match vs, kw, h with
  | v :: vs, [], h =>
    obtain ⟨h, h8⟩ := bool_and h
    obtain ⟨h, h7⟩ := bool_and h
    obtain ⟨h, h6⟩ := bool_and h
    obtain ⟨h, h5⟩ := bool_and h
    obtain ⟨h, h4⟩ := bool_and h
    obtain ⟨h, h3⟩ := bool_and h
    obtain ⟨h1, h2⟩ := bool_and h
    have e := of_decide_eq_true h2
    subst e
    have e7 := of_decide_eq_true h7
    subst e7
    split at h1
    · rename_i oc e
      obtain ⟨k1, k2⟩ := bool_and h1
      rw [if_pos rfl] at k2
      exact ⟨y, q, apos, v, vs, p, oc, rfl, e, of_decide_eq_true k1, of_decide_eq_true k2, h3, h4, h5, of_decide_eq_true h6, bool_not h8⟩
    · cases h1
  | [], _, h => exact ff h
  | _ :: _, _ :: _, h => exact ff h
theorem i_isc {a : E3} {y : Str} {row : List Bool} (h : chk (.isc a y row) ck x = true) : ∃ q l q' p, x = .Call (.Name "isinstance" q) [l, .Name y q'] [] p ∧ isGl ck "isinstance" = true ∧ isGl ck y = true ∧ (y, row) ∈ ck.ics ∧ chk a ck l = true := by
  have h' : (match iscOf x with
    | some (x, l, t) => decide (x = ("isinstance" : Str)) && isGl ck x && decide (t = y) && isGl ck t && decide ((y, row) ∈ ck.ics) && chk a ck l
    | none => false) = true := h
  cases e : iscOf x with
  | none => rw [e] at h'; exact ff h'
  | some t =>
    obtain ⟨x1, l, t1⟩ := t
    rw [e] at h'
    obtain ⟨q, q2, p, rfl⟩ := iscOf_inv e
    obtain ⟨h, h6⟩ := bool_and h'
    obtain ⟨h, h5⟩ := bool_and h
    obtain ⟨h, h4⟩ := bool_and h
    obtain ⟨h, h3⟩ := bool_and h
    obtain ⟨h1, h2⟩ := bool_and h
    have e1 := of_decide_eq_true h1
    subst e1
    have e2 := of_decide_eq_true h3
    subst e2
    exact ⟨_, _, _, _, rfl, h2, h4, of_decide_eq_true h5, h6⟩
end
end L3
set_option maxRecDepth 100000
set_option maxHeartbeats 4000000
namespace L3
open PySem PySem.Spec L2
def ItOk (E : Env3) (g0 : G) (H0 : Hp) (J : It) (items : List W) (ok : G → Prop) : Prop :=
  ∀ (i : Nat) (g : G) (H : Hp), GR E g H → FK g0 H0 g H → ok g → (∀ w, items[i]? = some w → J.go i H ∧ ∀ x H', J.yld i H x H' → RV E.K H' w x ∧ GR E g H' ∧ FK g H g H') ∧ (items.length ≤ i → J.stop i H)
def liftI (E : Env3) (w : WX) (t : TI3) : TI := fun σ H R => ∃ s g r x, SR E.K H s σ ∧ GR E g H ∧ t x s g r ∧
  (∀ items ok g' J H', GR E g' H' → FK g H g' H' → ItOk E g' H' J items ok → r items ok g' → R J H') ∧ KX E g H x (fun cls d H' => w cls d σ H')
section
variable {X : Cx} {E : Env3} {w : WX}
theorem it_list {K : PySem.W.Frag} {g0 : G} {H0 : Hp} {a : Addr} {xs : List W} (hK : K = E.K) : ItOk E g0 H0 (Itl K a) xs (fun g' => g' a = some (.lst xs)) := by
  intro i g H hg f ok
  obtain ⟨ys, f1, r1⟩ := hg _ _ ok
  refine ⟨fun u e => ?_, fun hl => ⟨ys, SqL.of f1, by rw [r1.length]; exact hl⟩⟩
  obtain ⟨v, e1, rv⟩ := r1.get e
  refine ⟨⟨ys, v, SqL.of f1, e1⟩, fun x H' y => ?_⟩
  obtain ⟨eH, y⟩ := y
  subst eH
  have e2 := y ys (SqL.of f1)
  rw [e1] at e2
  cases e2
  exact ⟨rv, hg, FK.refl⟩
theorem it_scr {g0 : G} {H0 : Hp} {a : Addr} {xs : List W} {ys : List V} (h0 : GR E g0 H0) (hf : FrL E.K H0 a ys) (r : RVs E.K H0 xs ys) : ItOk E g0 H0 (Itl E.K a) xs (fun _ => True) := by
  intro i g H hg f ok
  have t := f.tk h0
  have q : SqL E.K H a ys := (t.frl hf).sq
  refine ⟨fun u e => ?_, fun hl => ⟨ys, q, by rw [r.length]; exact hl⟩⟩
  obtain ⟨v, e1, rv⟩ := r.get e
  refine ⟨⟨ys, v, q, e1⟩, fun x H' y => ?_⟩
  obtain ⟨eH, y⟩ := y
  subst eH
  have e2 := y ys q
  rw [e1] at e2
  cases e2
  exact ⟨rv.keep t, hg, FK.refl⟩
theorem it_tup {K : PySem.W.Frag} {g0 : G} {H0 : Hp} {a : Addr} {xs : List W} {ys : List V} (h0 : GR E g0 H0) (hf : H0 a = some (.tup ys)) (r : RVs E.K H0 xs ys) : ItOk E g0 H0 (Itt K a) xs (fun _ => True) := by
  intro i g H hg f ok
  have t := f.tk h0
  have q : SqT K H a ys := SqT.of (t.tup _ _ hf)
  refine ⟨fun u e => ?_, fun hl => ⟨ys, q, by rw [r.length]; exact hl⟩⟩
  obtain ⟨v, e1, rv⟩ := r.get e
  refine ⟨⟨ys, v, q, e1⟩, fun x H' y => ?_⟩
  obtain ⟨eH, y⟩ := y
  subst eH
  have e2 := y ys q
  rw [e1] at e2
  cases e2
  exact ⟨rv.keep t, hg, FK.refl⟩
theorem it_rngD {g0 : G} {H0 : Hp} {lo : Int} {n : Nat} : ItOk E g0 H0 (Itc lo (-1) n) (rngDW lo n) (fun _ => True) := by
  intro i g H hg f ok
  refine ⟨fun u e => ?_, fun hl => show n ≤ i by simpa [rngDW] using hl⟩
  have hi : i < n := by
    have := (List.getElem?_eq_some_iff.mp e).1
    simpa [rngDW] using this
  have eu : u = .int (lo + (i : Nat) * (-1)) := by
    simp [rngDW, hi] at e
    rw [← e]; congr 1; omega
  subst eu
  refine ⟨hi, fun x H' y => ?_⟩
  obtain ⟨eH, rfl⟩ := y
  subst eH
  exact ⟨by rw [RV], hg, FK.refl⟩
theorem it_rng {g0 : G} {H0 : Hp} {lo : Int} {n : Nat} : ItOk E g0 H0 (Itr lo n) (rngW lo n) (fun _ => True) := by
  intro i g H hg f ok
  refine ⟨fun u e => ?_, fun hl => show n ≤ i by simpa [rngW] using hl⟩
  have hi : i < n := by
    have := (List.getElem?_eq_some_iff.mp e).1
    simpa [rngW] using this
  have eu : u = .int (lo + (i : Nat)) := by
    simp [rngW, hi] at e
    exact e.symm
  subst eu
  refine ⟨hi, fun x H' y => ?_⟩
  obtain ⟨eH, rfl⟩ := y
  subst eH
  exact ⟨by rw [RV], hg, FK.refl⟩
theorem it_str {g0 : G} {H0 : Hp} {z : Str} : ItOk E g0 H0 (Its z) (z.cps.toList.map fun c => .str ⟨#[c]⟩) (fun _ => True) := by
  intro i g H hg f ok
  refine ⟨fun u e => ?_, fun hl => show z.cps.size ≤ i by simpa using hl⟩
  have hi : i < z.cps.size := by
    have := (List.getElem?_eq_some_iff.mp e).1
    simpa using this
  refine ⟨hi, fun x H' y => ?_⟩
  obtain ⟨eH, c, ec, rfl⟩ := y
  subst eH
  have eu : u = .str ⟨#[c]⟩ := by
    rw [List.getElem?_map] at e
    rw [← Array.getElem?_toList] at ec
    rw [ec] at e
    simpa using e.symm
  subst eu
  exact ⟨by rw [RV], hg, FK.refl⟩
theorem it_revL {K : PySem.W.Frag} {g0 : G} {H0 : Hp} {a : Addr} {xs : List W} : ItOk E g0 H0 (Itv K a xs.length) xs.reverse (fun g' => g' a = some (.lst xs)) := by
  intro i g H hg f ok
  obtain ⟨ys, f1, r1⟩ := hg _ _ ok
  refine ⟨fun u e => ?_, fun hl => show xs.length ≤ i by simpa using hl⟩
  have hi : i < xs.length := by
    have := (List.getElem?_eq_some_iff.mp e).1
    simpa using this
  rw [List.getElem?_reverse hi] at e
  obtain ⟨v, e1, rv⟩ := r1.get e
  refine ⟨⟨hi, ys, v, SqL.of f1, e1⟩, fun x H' y => ?_⟩
  obtain ⟨eH, y⟩ := y
  subst eH
  have e2 := y ys (SqL.of f1)
  rw [e1] at e2
  cases e2
  exact ⟨rv, hg, FK.refl⟩
theorem it_revS {g0 : G} {H0 : Hp} {a : Addr} {xs : List W} {ys : List V} (h0 : GR E g0 H0) (hf : FrL E.K H0 a ys) (r : RVs E.K H0 xs ys) : ItOk E g0 H0 (Itv E.K a xs.length) xs.reverse (fun _ => True) := by
  intro i g H hg f ok
  have t := f.tk h0
  have q : SqL E.K H a ys := (t.frl hf).sq
  refine ⟨fun u e => ?_, fun hl => show xs.length ≤ i by simpa using hl⟩
  have hi : i < xs.length := by
    have := (List.getElem?_eq_some_iff.mp e).1
    simpa using this
  rw [List.getElem?_reverse hi] at e
  obtain ⟨v, e1, rv⟩ := r.get e
  refine ⟨⟨hi, ys, v, q, e1⟩, fun x H' y => ?_⟩
  obtain ⟨eH, y⟩ := y
  subst eH
  have e2 := y ys q
  rw [e1] at e2
  cases e2
  exact ⟨rv.keep t, hg, FK.refl⟩
theorem it_revT {K : PySem.W.Frag} {g0 : G} {H0 : Hp} {a : Addr} {xs : List W} {ys : List V} (h0 : GR E g0 H0) (hf : H0 a = some (.tup ys)) (r : RVs E.K H0 xs ys) : ItOk E g0 H0 (RT.ItvT K a xs.length) xs.reverse (fun _ => True) := by
  intro i g H hg f ok
  have t := f.tk h0
  have q : SqT K H a ys := SqT.of (t.tup _ _ hf)
  refine ⟨fun u e => ?_, fun hl => show xs.length ≤ i by simpa using hl⟩
  have hi : i < xs.length := by
    have := (List.getElem?_eq_some_iff.mp e).1
    simpa using this
  rw [List.getElem?_reverse hi] at e
  obtain ⟨v, e1, rv⟩ := r.get e
  refine ⟨⟨hi, ys, v, q, e1⟩, fun x H' y => ?_⟩
  obtain ⟨eH, y⟩ := y
  subst eH
  have e2 := y ys q
  rw [e1] at e2
  cases e2
  exact ⟨rv.keep t, hg, FK.refl⟩
theorem enumW_get {xs : List W} {i : Nat} {u : W} (e : (enumW xs)[i]? = some u) : ∃ x, xs[i]? = some x ∧ u = .tup [.int ((i : Nat) : Int), x] := by
  unfold enumW at e
  rw [List.getElem?_map, List.getElem?_zipIdx] at e
  cases h : xs[i]? with
  | none => rw [h] at e; cases e
  | some x => rw [h] at e; simp at e; exact ⟨x, rfl, e.symm⟩
theorem it_enum {K : PySem.W.Frag} {g0 : G} {H0 : Hp} {a : Addr} {xs : List W} {ok : G → Prop}
    (rd : ∀ g H, GR E g H → FK g0 H0 g H → ok g → ∃ ys, SqL K H a ys ∧ RVs E.K H xs ys) : ItOk E g0 H0 (Ite K a) (enumW xs) ok := by
  intro i g H hg f hk
  obtain ⟨ys, q, r⟩ := rd g H hg f hk
  refine ⟨fun u e => ?_, fun hl => ⟨ys, q, by rw [r.length]; simpa [enumW] using hl⟩⟩
  obtain ⟨x, ex, rfl⟩ := enumW_get e
  obtain ⟨v, e1, rv⟩ := r.get ex
  refine ⟨⟨ys, v, q, e1⟩, fun z H' y => ?_⟩
  obtain ⟨T, x', rfl, hT, rfl, y⟩ := y
  have e2 := y ys q
  rw [e1] at e2
  cases e2
  exact ⟨rv_tup upd_same (.cons rv_int (.cons (rv.keep (TK.new hT)) .nil)), hg.new' hT, FK.new' hT⟩
theorem it_zip {K : PySem.W.Frag} {g0 : G} {H0 : Hp} {a b : Addr} {xs zs : List W} {ok : G → Prop}
    (rd : ∀ g H, GR E g H → FK g0 H0 g H → ok g → (∃ ys, SqL K H a ys ∧ RVs E.K H xs ys) ∧ ∃ ys, SqL K H b ys ∧ RVs E.K H zs ys) : ItOk E g0 H0 (Itz K a b) (zipW xs zs) ok := by
  intro i g H hg f hk
  obtain ⟨⟨ys, q, r⟩, us, q', r'⟩ := rd g H hg f hk
  refine ⟨fun u e => ?_, fun hl => ⟨ys, us, q, q', by rw [r.length, r'.length]; simp [zipW] at hl; omega⟩⟩
  unfold zipW at e
  rw [List.getElem?_map, Option.map_eq_some_iff] at e
  obtain ⟨⟨x1, x2⟩, e0, rfl⟩ := e
  obtain ⟨ex, ez⟩ := List.getElem?_zip_eq_some.mp e0
  obtain ⟨v, e1, rv⟩ := r.get ex
  obtain ⟨v', e1', rv'⟩ := r'.get ez
  refine ⟨⟨ys, us, v, v', q, q', e1, e1'⟩, fun z H' y => ?_⟩
  obtain ⟨T, x', y', rfl, hT, rfl, y, y2⟩ := y
  have e2 := y ys q
  rw [e1] at e2
  cases e2
  have e3 := y2 us q'
  rw [e1'] at e3
  cases e3
  exact ⟨rv_tup upd_same (.cons (rv.keep (TK.new hT)) (.cons (rv'.keep (TK.new hT)) .nil)), hg.new' hT, FK.new' hT⟩
theorem pi_sq {tg l : Expr} {tl : TE} (hl : PE X l tl) : PI X tg l (fun σ H R => tl σ H fun x H1 => (∃ a, x = .ref a ∧ (∃ xs, SqL X.K H1 a xs) ∧ R (Itl X.K a) H1) ∨ ∃ a, x = .ref a ∧ (∃ xs, SqT X.K H1 a xs) ∧ R (Itt X.K a) H1) := by
  refine ⟨fun pins s σ H R I h => thn (hl.run pins s σ H _ I h) fun v s1 hv => ?_⟩
  obtain ⟨x, H1, J, r1, q1⟩ := hv
  have fp : ∀ b ∈ [s1.heap.objs.size], FpOk X pins H1 b := fun b hb => by
    rw [List.mem_singleton.mp hb]
    exact J.fpOk (Nat.le_refl _) (J.hok.fresh (Nat.le_refl _))
  rcases q1 with ⟨a, rfl, ⟨xs, hq⟩, q⟩ | ⟨a, rfl, ⟨xs, hq⟩, q⟩
  · cases r1
    obtain ⟨its, rv, p, hz⟩ := J.list hq
    exact wpAny_pyIter_list p.isList ⟨_, _, _, _, H1, rfl, J.kept (t' := s1.toks) fun b o e => Heap.get?_push_of_some _ e, turn_list a _, ⟨_, Heap.get?_push_size _ rfl, rfl, rfl⟩, fp, q⟩
  · cases r1
    obtain ⟨its, rv, p, hz⟩ := J.tuple hq
    exact wpAny_pyIter_tuple (show s1.heap.IsTuple a its.toArray from p) ⟨_, _, _, _, H1, rfl, J.kept (t' := s1.toks) fun b o e => Heap.get?_push_of_some _ e, turn_tuple a _, ⟨_, Heap.get?_push_size _ rfl, rfl, rfl⟩, fp, q⟩
theorem piI {tg e : Expr} {t t' : TI} (h : PI X tg e t) (i : ∀ σ H Q, t' σ H Q → t σ H Q) : PI X tg e t' := ⟨fun pins s σ H Q I q => h.run pins s σ H Q I (i σ H Q q)⟩
end
end L3
set_option maxRecDepth 100000
set_option maxHeartbeats 4000000
namespace L3
open PySem PySem.Spec L2
def gT (K : PySem.W.Frag) : T3 → TG
  | .name i => gName i
  | .tup is => fun v σ H Q => (∃ a xs, v = .ref a ∧ SqT K H a xs ∧ xs.length = is.length ∧ Q (setAll is xs σ) H) ∨ ∃ a xs, v = .ref a ∧ SqL K H a xs ∧ xs.length = is.length ∧ Q (setAll is xs σ) H
def gNs (is : List Nat) : TGs := fun vs σ H Q => vs.length = is.length ∧ Q (setAll is vs σ) H
section
variable {X : Cx} {E : Env3} {w : WX} {CF : CF3} {gl : Gs} {ck : Ck}
theorem pgsI {e : List Expr} {t t' : TGs} (h : PGs X e t) (i : ∀ v σ H Q, t' v σ H Q → t v σ H Q) : PGs X e t' := ⟨fun pins s σ H v u Q I r q => h.run pins s σ H v u Q I r (i _ _ _ _ q)⟩
theorem locs_ok (ok : CkOk ck X E w CF gl) : ∀ {is : List Nat} {es : List Expr}, locs ck is es = true → PGs X es (gNs is) ∧ (assignEach es X.env).length = is.length ∧ (assignEach es X.env).findIdx? (·.1) = none
  | [], [], _ => ⟨pgsI pgs_nil fun v σ H Q h => ⟨List.length_eq_zero_iff.mp h.1, by cases v with | nil => exact h.2 | cons a b => exact absurd h.1 (by simp)⟩, rfl, rfl⟩
  | [], _ :: _, h => ff h
  | _ :: _, [], h => ff h
  | i :: is, e :: es, h => by
    cases e <;> first | exact ff h | skip
    rename_i x p
    obtain ⟨h1, h2⟩ := bool_and h
    obtain ⟨k1, k2, k3⟩ := locs_ok ok h2
    obtain ⟨l1, l2, l3⟩ := ok.loc h1
    refine ⟨pgsI (pgs_cons (pg_name (i := i) ok.nd' l1 l2 l3) k1) fun v σ H Q q => ?_, by show _ + 1 = _ + 1; rw [k2], ?_⟩
    · obtain ⟨q1, q2⟩ := q
      cases v with
      | nil => simp at q1
      | cons a r => exact ⟨a, r, rfl, by simpa using q1, q2⟩
    · show ((false, assign (.Name x p) X.env) :: assignEach es X.env).findIdx? (·.1) = none
      rw [List.findIdx?_cons]
      simp [k3]
theorem s_t (ok : CkOk ck X E w CF gl) {tg : T3} {e : Expr} (h : chkT ck tg e = true) : PG X e (gT E.K tg) := by
  cases tg with
  | name i =>
    cases e <;> first | exact ff h | skip
    obtain ⟨l1, l2, l3⟩ := ok.loc h
    exact pg_name (i := i) ok.nd' l1 l2 l3
  | tup is =>
    cases e <;> first | exact ff h | skip
    obtain ⟨h, hh⟩ := bool_and h
    have hh := bool_not hh
    obtain ⟨k1, k2, k3⟩ := locs_ok ok h
    have a := pg_tup (k := by assumption) (pos := by assumption) (ok.calm hh) k1 k2 k3
    have b := pg_unl (k := by assumption) (pos := by assumption) (ok.calm hh) k1 k2 k3
    refine ⟨fun pins s σ H v u Q I r q => ?_⟩
    rw [ok.hK] at a b
    rcases q with ⟨p, xs, e1, hq, hl, q⟩ | ⟨p, xs, e1, hq, hl, q⟩
    · exact a.run pins s σ H v u Q I r ⟨p, xs, e1, hq, hl, hl, q⟩
    · exact b.run pins s σ H v u Q I r ⟨p, xs, e1, hq, hl, hl, q⟩
theorem SR.setAll {K : PySem.W.Frag} {H : Hp} : ∀ {is : List Nat} {ws : List W} {vs : List V} {s : Sx} {σ : L2.St}, RVs K H ws vs → SR K H s σ → SR K H (L3.setAll is ws s) (L3.setAll is vs σ)
  | [], _, _, _, _, _, h => h
  | _ :: _, [], _, _, _, r, h => by rw [r.nil_inv]; exact h
  | i :: is, x :: xs, _, _, _, r, h => by
    obtain ⟨v, r', rfl, h1, h2⟩ := r.cons_inv
    exact SR.setAll (is := is) h2 (h.set h1 i)
inductive Sets (is : List Nat) (σ : L2.St) : L2.St → Prop
  | refl : Sets is σ σ
  | step {τ : L2.St} {i : Nat} {v : V} (h : Sets is σ τ) (m : i ∈ is) : Sets is σ (τ.set i (some v))
theorem sets_all {js : List Nat} {σ : L2.St} : ∀ {is : List Nat} {vs : List V} {τ : L2.St}, (∀ i ∈ is, i ∈ js) → Sets js σ τ → Sets js σ (setAll is vs τ)
  | [], _, _, _, h => h
  | _ :: _, [], _, _, h => h
  | i :: is, v :: vs, τ, m, h => sets_all (is := is) (vs := vs) (fun j hj => m j (List.mem_cons_of_mem _ hj)) (h.step (m i List.mem_cons_self))
theorem l_asg {tg : T3} {a : W} {v : V} {s : Sx} {σ : L2.St} {g : G} {H : Hp} {k : Sx → Prop} {Q : L2.St → Hp → Prop} (r : RV E.K H a v) (hs : SR E.K H s σ) (hg : GR E g H) (h : asg tg a s g k)
    (hQ : ∀ s2 σ2, SR E.K H s2 σ2 → Sets (tIs tg) σ σ2 → k s2 → Q σ2 H) : gT E.K tg v σ H Q := by
  cases tg with
  | name i => exact hQ _ _ (hs.set r i) (.step .refl (by simp [tIs])) h
  | tup is =>
    cases a with
    | tup xs =>
      obtain ⟨p, ys, rfl, ht, hr⟩ := rv_tup_inv r
      exact .inl ⟨p, ys, rfl, SqT.of ht, by rw [hr.length]; exact h.1, hQ _ _ (hs.setAll hr) (sets_all (fun _ z => z) .refl) h.2⟩
    | scr xs =>
      obtain ⟨p, ys, rfl, ht, hr⟩ := rv_scr_inv r
      exact .inr ⟨p, ys, rfl, ht.sq, by rw [hr.length]; exact h.1, hQ _ _ (hs.setAll hr) (sets_all (fun _ z => z) .refl) h.2⟩
    | lv xs =>
      obtain ⟨p, ys, rfl, ht, hr⟩ := rv_lv_inv r
      exact .inr ⟨p, ys, rfl, ht.sq, by rw [hr.length]; exact h.1, hQ _ _ (hs.setAll hr) (sets_all (fun _ z => z) .refl) h.2⟩
    | ref p =>
      rw [RV] at r; subst r
      obtain ⟨xs, e, h1, h2⟩ := lstAt_inv h
      obtain ⟨ys, f1, hr⟩ := hg _ _ e
      exact .inr ⟨p, ys, rfl, SqL.of f1, by rw [hr.length]; exact h1, hQ _ _ (hs.setAll hr) (sets_all (fun _ z => z) .refl) h2⟩
    | _ => exact h.elim
theorem wipe_set1 {σ : L2.St} {i : Nat} {x y : Option V} : ∀ vs : List Nat, (wipe (σ.set i x) vs).set i y = (wipe σ vs).set i y
  | [] => by simp [wipe]
  | v :: vs => by
    show ((wipe (σ.set i x) vs).set v none).set i y = ((wipe σ vs).set v none).set i y
    by_cases e : v = i
    · subst e; simp [List.set_set, wipe_set1 vs]
    · rw [List.set_comm _ _ e, List.set_comm _ _ e, wipe_set1 vs]
theorem wipe_set {σ : L2.St} {i : Nat} {x : Option V} : ∀ {vs : List Nat}, i ∈ vs → wipe (σ.set i x) vs = wipe σ vs
  | [], h => by cases h
  | v :: vs, h => by
    show (wipe (σ.set i x) vs).set v none = (wipe σ vs).set v none
    by_cases e : i ∈ vs
    · rw [wipe_set e]
    · have e' : i = v := (List.mem_cons.mp h).elim id fun z => absurd z e
      subst e'
      exact wipe_set1 vs
theorem wipe_none {σ : L2.St} {i : Nat} : ∀ {vs : List Nat}, i ∈ vs → (wipe σ vs).set i none = wipe σ vs
  | [], h => by cases h
  | v :: vs, h => by
    show ((wipe σ vs).set v none).set i none = (wipe σ vs).set v none
    by_cases e : v = i
    · subst e; simp [List.set_set]
    · rw [List.set_comm _ _ e]
      have e' : i ∈ vs := (List.mem_cons.mp h).elim (fun z => absurd z.symm e) id
      rw [wipe_none e']
theorem wipe_idem {σ : L2.St} {vs : List Nat} : ∀ {us : List Nat}, (∀ u ∈ us, u ∈ vs) → wipe (wipe σ vs) us = wipe σ vs
  | [], _ => rfl
  | u :: us, h => by
    show (wipe (wipe σ vs) us).set u none = _
    rw [wipe_idem fun v hv => h v (List.mem_cons_of_mem _ hv), wipe_none (h u List.mem_cons_self)]
theorem wipe_sets {is vs : List Nat} {σ τ : L2.St} (m : ∀ i ∈ is, i ∈ vs) (h : Sets is σ τ) : wipe τ vs = wipe σ vs := by
  induction h with
  | refl => rfl
  | step h k ih => rw [wipe_set (m _ k), ih]
theorem SR.wipe {K : PySem.W.Frag} {H : Hp} {s : Sx} {σ : L2.St} (h : SR K H s σ) : ∀ vs : List Nat, SR K H (wipe3 s vs) (L2.wipe σ vs)
  | [] => h
  | v :: vs => (SR.wipe h vs).unset v
theorem GR.skip {g : G} {H : Hp} {p : Addr} {u : HO} (hg : GR E g H) (n : g p = none) (t : TK H (upd H p u)) : GR E g (upd H p u) := fun a o e =>
  (hg a o e).keep t (upd_ne fun z => by subst z; rw [n] at e; cases e)
theorem l_lc {tg : T3} {own : List Nat} {ti : TI3} {tt : TT3} {te : TE3} (m : ∀ i ∈ tIs tg, i ∈ own) {σ : L2.St} {H : Hp} {Q : VK}
    (h : liftE E w (fun x s g q => ti x s g fun items ok g1 => lcI tg ok (fun s2 g2 k => tt (fun _ _ _ => False) s2 g2 k) (fun s2 g2 k => te (fun _ _ _ => False) s2 g2 k) (wipe3 s own) q items [] g1) σ H Q) :
    tLc (liftI E w ti) (gT E.K tg) (liftT E w0 tt) (liftE E w0 te) own σ H Q := by
  obtain ⟨s, g, q, x, hs, hg, h, kq, kx⟩ := h
  refine ⟨s, g, _, x, hs, hg, h, fun items ok g1 J H1 hg1 f1 hit hl D hD => ?_, kx⟩
  have t1 := f1.tk hg
  have gD := hg1.free hD
  refine ⟨fun i n H' => n = items.length - i ∧ i ≤ items.length ∧ ∃ acc vs g2, GR E g2 H' ∧ FK g1 H1 g2 H' ∧ H' D = some (.lst vs) ∧ RVs E.K H' acc vs ∧ g2 D = none ∧
    lcI tg ok (fun s2 g2 k => tt (fun _ _ _ => False) s2 g2 k) (fun s2 g2 k => te (fun _ _ _ => False) s2 g2 k) (wipe3 s own) q (items.drop i) acc g2,
    ⟨items.length, by simp, Nat.zero_le _, [], [], g1, hg1.new' hD, FK.new' hD, upd_same, .nil, gD, hl⟩, ?_⟩
  rintro i n H2 ⟨rfl, hi, acc, vs, g2, hg2, f2, e2, r2, n2, hl⟩
  have t2 := f2.tk hg1
  cases hd : items.drop i with
  | nil =>
    rw [hd] at hl
    have hlen : items.length ≤ i := List.drop_eq_nil_iff.mp hd
    refine .inl ⟨(hit i g2 H2 hg2 f2 hl.1).2 hlen, ?_⟩
    refine kq (.ref D) (gup g2 D (.lst acc)) (.ref D) H2 ?_ rv_ref ?_ (hl.2 D n2)
    · intro a o e
      by_cases z : a = D
      · subst z; rw [gup_same] at e; cases e; exact ⟨vs, e2, r2⟩
      · rw [gup_ne z] at e; exact hg2 a o e
    · refine f1.trans ⟨fun a u e k => ?_, f2.frz⟩
      obtain ⟨q1, q2⟩ := f2.own a u e k
      have z : a ≠ D := ne_of_none e hD
      exact ⟨q1, by rw [gup_ne z]; exact q2⟩
  | cons y ys =>
    rw [hd] at hl
    have hlt : i < items.length := by
      rcases Nat.lt_or_ge i items.length with z | z
      · exact z
      · rw [List.drop_eq_nil_of_le z] at hd; cases hd
    have ey : items[i]? = some y := by
      have := congrArg List.head? hd
      simpa [List.head?_drop] using this
    have eys : items.drop (i + 1) = ys := by
      have := congrArg List.tail hd
      simpa [List.tail_drop] using this
    obtain ⟨hok, hl⟩ := hl
    obtain ⟨hgo, hyl⟩ := (hit i g2 H2 hg2 f2 hok).1 y ey
    refine .inr ⟨hgo, fun H' => ∃ m', m' < items.length - i ∧ (m' = items.length - (i + 1) ∧ i + 1 ≤ items.length ∧ ∃ acc vs g2, GR E g2 H' ∧ FK g1 H1 g2 H' ∧ H' D = some (.lst vs) ∧ RVs E.K H' acc vs ∧ g2 D = none ∧
      lcI tg ok (fun s2 g2 k => tt (fun _ _ _ => False) s2 g2 k) (fun s2 g2 k => te (fun _ _ _ => False) s2 g2 k) (wipe3 s own) q (items.drop (i + 1)) acc g2), fun H' z => z, fun v H3 hy => ?_⟩
    obtain ⟨rv, hg3, f3⟩ := hyl v H3 hy
    have t3 := f3.tk hg2
    refine l_asg rv (((hs.keep t1).keep t2 |>.keep t3).wipe own) hg3 hl fun s4 σ4 hs4 st hk => ⟨?_, ?_⟩
    · rw [wipe_sets m st]
      exact wipe_idem fun _ z => z
    refine ⟨s4, g2, _, fun _ _ _ => False, hs4, hg3, hk, fun b g5 H5 hg5 f5 hb => ?_, fun _ _ _ _ _ _ _ _ _ z => z.elim⟩
    have t5 := f5.tk hg3
    have fD : H5 D = some (.lst vs) ∧ g5 D = none := (f3.trans f5).own D _ e2 n2
    have r5 : RVs E.K H5 acc vs := (r2.keep t3).keep t5
    show if b = true then _ else _
    replace hb : if b = true then _ else _ := hb
    by_cases hbt : b = true
    · rw [if_pos hbt] at hb ⊢
      refine ⟨s4, g5, _, fun _ _ _ => False, hs4.keep t5, hg5, hb, fun y' g6 v6 H6 hg6 rv6 f6 hz => ?_, fun _ _ _ _ _ _ _ _ _ z => z.elim⟩
      obtain ⟨hsz, hz⟩ := hz
      have t6 := f6.tk hg5
      have fD6 := f6.own D _ fD.1 fD.2
      have tD : TK H6 (upd H6 D (.lst (vs ++ [v6]))) := TK.wr fD6.1 trivial
      refine ⟨vs, fD6.1, by rw [r5.length]; exact hsz, _, ?_, rfl, hlt, acc ++ [y'], vs ++ [v6], g6, hg6.skip fD6.2 tD, ?_, upd_same, ((r5.keep t6).keep tD).append (.cons (rv6.keep tD) .nil), fD6.2, by rw [eys]; exact hz⟩
      · omega
      · have f26 := ((f2.trans f3).trans f5).trans f6
        refine ⟨fun a u e k => ?_, fun a od u e => ?_⟩
        · obtain ⟨q1, q2⟩ := f26.own a u e k
          exact ⟨by rw [upd_ne (ne_of_none e hD)]; exact q1, q2⟩
        · rw [upd_ne (ne_of_none e hD)]; exact f26.frz a od u e
    · rw [if_neg hbt] at hb ⊢
      exact ⟨_, by omega, rfl, hlt, acc, vs, g5, hg5, (f2.trans f3).trans f5, fD.1, r5, fD.2, by rw [eys]; exact hb⟩
end
end L3
set_option maxRecDepth 100000
set_option maxHeartbeats 4000000
namespace L3
open PySem PySem.Spec L2
def tLk (te : TE) : TE := fun σ H Q => te σ H (fun v H1 => Q v H1 ∨ ∃ d u, v = .ref d ∧ H1 d = some u ∧ Mut (some u) ∧ ∀ od, Q v (upd H1 d (.frz od u)))
def unH (H0 : Hp) (N : Hp → Prop) (H' : Hp) : Prop := N H' ∨ ∃ d od u, H' d = some (.frz od u) ∧ Mut (some u) ∧ (∀ o' u', H0 d ≠ some (.frz o' u')) ∧ N (upd H' d u)
def unE (H0 : Hp) (D : Ends) : Ends := ⟨fun σ H => unH H0 (D.nx σ) H, fun v H => unH H0 (D.rt v) H, fun σ H => unH H0 (D.bk σ) H, fun σ H => unH H0 (D.ct σ) H⟩
def tUnl (t : TS) : TS := fun D σ H => t (unE H D) σ H
def tUnlE (t : TE) : TE := fun σ H Q => t σ H fun v H' => unH H (Q v) H'
section
variable {X : Cx} {pins : List (Addr × Obj)} {σ σ' : L2.St} {H H' : Hp} {s s' : Shared}
theorem pe_lk {e : Expr} {te : TE} (h : PE X e te) : PE X e (tLk te) := by
  refine ⟨fun pins s σ H Q I q => ?_⟩
  refine thn (h.run pins s σ H _ I q) fun v s1 ⟨x, H1, I1, r, q1⟩ => ?_
  rcases q1 with q1 | ⟨d, u, e, hd, mu, q1⟩
  · exact ⟨x, H1, I1, r, q1⟩
  · obtain ⟨od, I2⟩ := I1.lock hd mu
    exact ⟨x, _, I2, r, q1 od⟩
theorem un_ix {N : Hp → Prop} (I0 : L2.Inv X pins σ H s) (I : L2.Inv X pins σ' H' s') (h : unH H N H') : ∃ H2, L2.Inv X pins σ' H2 s' ∧ N H2 := by
  rcases h with h | ⟨d, od, u, hd, mu, hn, h⟩
  · exact ⟨H', I, h⟩
  · exact ⟨_, I.unlock hd (fun o' u' e => hn o' u' (I0.base.frzs d o' u' e)), h⟩
theorem ps_unl {st : Stmt} {t : TS} (h : PS X st t) : PS X st (tUnl t) := by
  refine ⟨fun pins s σ H D I hw => ?_⟩
  refine thn (h.run pins s σ H _ I hw) fun f s1 q => ?_
  cases f with
  | next => obtain ⟨σ', H', I2, q⟩ := q; obtain ⟨H2, I3, q⟩ := un_ix I I2 q; exact ⟨σ', _, I3, q⟩
  | brk => obtain ⟨σ', H', I2, q⟩ := q; obtain ⟨H2, I3, q⟩ := un_ix I I2 q; exact ⟨σ', _, I3, q⟩
  | cont => obtain ⟨σ', H', I2, q⟩ := q; obtain ⟨H2, I3, q⟩ := un_ix I I2 q; exact ⟨σ', _, I3, q⟩
  | ret v => obtain ⟨x, σ', H', I2, r, q⟩ := q; obtain ⟨H2, I3, q⟩ := un_ix I I2 q; exact ⟨x, σ', _, I3, r, q⟩
theorem pe_unl {e : Expr} {t : TE} (h : PE X e t) : PE X e (tUnlE t) := by
  refine ⟨fun pins s σ H Q I hw => ?_⟩
  refine thn (h.run pins s σ H _ I hw) fun v s1 ⟨x, H1, I1, r, q⟩ => ?_
  obtain ⟨H2, I3, q⟩ := un_ix I I1 q
  exact ⟨x, _, I3, r, q⟩
end
section
variable {E : Env3} {g g' : G} {H H' : Hp} {w : WX}
theorem gup_self {a : Addr} {o : GO} (h : g a = some o) : gup g a o = g := by
  funext b; unfold gup; split
  · rename_i e; subst e; exact h.symm
  · rfl
theorem lkd_at (hg : GR E g H) {a : Addr} (h : lkd g a) : ∃ od u, H a = some (.frz od u) ∧ Mut (some u) ∧ (∀ xs, u ≠ .lst xs) ∧ GR E (unl g a) (upd H a u) ∧ TK H (upd H a u) := by
  rcases h with ⟨kvs, e⟩ | ⟨kvs, e⟩
  · obtain ⟨l, ⟨od, hd⟩, e1, e2⟩ := hg _ _ e
    refine ⟨od, _, hd, trivial, (fun _ z => nomatch z), ?_, hg.tk e⟩
    have : unl g a = gup g a (.dic false kvs) := by unfold unl; rw [e]
    rw [this]
    exact hg.wr e ⟨l, upd_same, e1, e2.keep (hg.tk e)⟩
  · obtain ⟨l, ⟨od, hd⟩, e1, e2⟩ := hg _ _ e
    refine ⟨od, _, hd, trivial, (fun _ z => nomatch z), ?_, hg.tk e⟩
    have : unl g a = gup g a (.dit false kvs) := by unfold unl; rw [e]
    rw [this]
    exact hg.wr e ⟨l, upd_same, e1, e2.keep (hg.tk e)⟩
theorem lkd_some {a : Addr} (h : lkd g a) : ∃ o, g a = some o := by rcases h with ⟨k, e⟩ | ⟨k, e⟩ <;> exact ⟨_, e⟩
theorem unl_ne {a b : Addr} (h : b ≠ a) : unl g a b = g b := by
  unfold unl
  rcases e : g a with _ | o
  · rfl
  · cases o with
    | lst xs => rfl
    | dic lk kvs => cases lk <;> first | rfl | exact gup_ne h
    | dit lk kvs => cases lk <;> first | rfl | exact gup_ne h
    | ins c fs => rfl
    | xd fs => rfl
theorem un_frz (hg : GR E g H) (f : FK g H g' H') {a : Addr} (h0 : ¬ lkd g a) (h1 : lkd g' a) : ∀ o' u', H a ≠ some (.frz o' u') := by
  intro o' u' e
  cases eg : g a with
  | none =>
    obtain ⟨o, k⟩ := lkd_some h1
    rw [(f.own a _ e eg).2] at k
    cases k
  | some o =>
    have r := hg a o eg
    cases o with
    | lst xs => obtain ⟨ys, q, _⟩ := r; rw [e] at q; cases q
    | dic lk kvs => cases lk with
      | false => obtain ⟨ys, q, _⟩ := r; rw [show H a = _ from q] at e; cases e
      | true => exact h0 (.inl ⟨kvs, eg⟩)
    | dit lk kvs => cases lk with
      | false => obtain ⟨ys, q, _⟩ := r; rw [show H a = _ from q] at e; cases e
      | true => exact h0 (.inr ⟨kvs, eg⟩)
    | ins c fs => obtain ⟨_, _, dx, l, q, _⟩ := r; rw [e] at q; cases q
    | xd fs => obtain ⟨l, q, _⟩ := r; rw [e] at q; cases q
theorem un_of (hg : GR E g H) (hg' : GR E g' H') (f : FK g H g' H') {P : G → Prop} {N : Hp → Prop} (h : un g P g') (k : ∀ g2 H2, GR E g2 H2 → FK g H g2 H2 → TK H' H2 → P g2 → N H2) : unH H N H' := by
  rcases h with h | ⟨a, h0, h1, h⟩
  · exact .inl (k g' H' hg' f TK.refl h)
  · obtain ⟨od, u, hd, mu, nl, hg2, tk⟩ := lkd_at hg' h1
    have hn := un_frz hg f h0 h1
    refine .inr ⟨a, od, u, hd, mu, hn, k _ _ hg2 ⟨fun b v e n => ?_, fun b o v e => ?_⟩ tk h⟩
    · obtain ⟨q1, q2⟩ := f.own b v e n
      have z : b ≠ a := fun z => by subst z; obtain ⟨o, k⟩ := lkd_some h1; rw [q2] at k; cases k
      exact ⟨by rw [upd_ne z]; exact q1, by rw [unl_ne z]; exact q2⟩
    · have z : b ≠ a := fun z => by subst z; exact hn _ _ e
      rw [upd_ne z]; exact f.frz b o v e
theorem un_kn (hg : GR E g H) {P : Sx → G → Prop} {N : L2.St → Hp → Prop} (k : KN E g H P N) : KN E g H (fun s g' => un g (P s) g') (fun σ H' => unH H (N σ) H') :=
  fun s' g' σ' H' r1 r2 f n => un_of hg r2 f n fun g2 H2 q1 q2 t p => k s' g2 σ' H2 (r1.keep t) q1 q2 p
theorem un_kq (hg : GR E g H) {P : VK3} {N : VK} (k : KQ E g H P N) : KQ E g H (fun v g' => un g (P v) g') (fun v H' => unH H (N v) H') :=
  fun a g' v H' r1 r2 f n => un_of hg r1 f n fun g2 H2 q1 q2 t p => k a g2 v H2 q1 (r2.keep t) q2 p
theorem un_kd (hg : GR E g H) {d : Ends3} {D : Ends} (k : KD E g H d D w) : KD E g H (unD g d) (unE H D) w :=
  ⟨un_kn hg k.nx, un_kq hg k.rt, un_kn hg k.bk, un_kn hg k.ct, k.ex⟩
theorem lock_dic (hg : GR E g H) {a : Addr} {kvs : List (Key × W)} {l : List (Key × V)} (eg : g a = some (.dic false kvs)) (hd : H a = some (.dK l)) (e1 : kvs.map (·.1) = l.map (·.1)) (e2 : RVs E.K H (kvs.map (·.2)) (l.map (·.2))) (od : Obj) :
    GR E (gup g a (.dic true kvs)) (upd H a (.frz od (.dK l))) ∧ FK g H (gup g a (.dic true kvs)) (upd H a (.frz od (.dK l))) :=
  ⟨hg.wr eg ⟨l, ⟨od, upd_same⟩, e1, e2.keep (hg.tk eg)⟩, FK.wr eg hd (fun _ _ z => nomatch z)⟩
theorem lock_dit (hg : GR E g H) {a : Addr} {kvs : List (List Key × W)} {l : List (List Key × V)} (eg : g a = some (.dit false kvs)) (hd : H a = some (.dT l)) (e1 : kvs.map (·.1) = l.map (·.1)) (e2 : RVs E.K H (kvs.map (·.2)) (l.map (·.2))) (od : Obj) :
    GR E (gup g a (.dit true kvs)) (upd H a (.frz od (.dT l))) ∧ FK g H (gup g a (.dit true kvs)) (upd H a (.frz od (.dT l))) :=
  ⟨hg.wr eg ⟨l, ⟨od, upd_same⟩, e1, e2.keep (hg.tk eg)⟩, FK.wr eg hd (fun _ _ z => nomatch z)⟩
theorem key_at {κ : Type} {kvs : List (κ × W)} {l : List (κ × V)} (e : kvs.map (·.1) = l.map (·.1)) {i : Nat} {k : κ} {v : V} (h : l[i]? = some (k, v)) : ∃ w, kvs[i]? = some (k, w) := by
  have e1 : (l.map (·.1))[i]? = some k := by rw [List.getElem?_map, h]; rfl
  rw [← e, List.getElem?_map] at e1
  cases e2 : kvs[i]? with
  | none => rw [e2] at e1; cases e1
  | some p => rw [e2] at e1; cases e1; exact ⟨p.2, rfl⟩
theorem rv_kW {K : PySem.W.Frag} {H : Hp} (k : Key) : RV K H (kW k) (kV k) := by cases k <;> simp [kW, kV, RV]
theorem rvs_kW {K : PySem.W.Frag} {H : Hp} : ∀ ks : List Key, RVs K H (ks.map kW) (ks.map kV)
  | [] => .nil
  | k :: ks => .cons (rv_kW k) (rvs_kW ks)
theorem it_keys {g0 : G} {H0 : Hp} {a : Addr} {od : Obj} {kvs : List (Key × W)} {l : List (Key × V)} (hd : H0 a = some (.frz od (.dK l))) (e1 : kvs.map (·.1) = l.map (·.1)) :
    ItOk E g0 H0 (Itk a od l) (kvs.map fun p => kW p.1) (fun g' => g' a = some (.dic true kvs)) := by
  intro i g H hg f ok
  have hd' := f.frz _ _ _ hd
  have hl : l.length = kvs.length := by simpa using (congrArg List.length e1).symm
  refine ⟨fun u e => ?_, fun h => ⟨hd', by simpa [hl] using h⟩⟩
  have hi : i < kvs.length := by
    have := (List.getElem?_eq_some_iff.mp e).1
    simpa using this
  refine ⟨⟨hd', by omega⟩, fun x H' y => ?_⟩
  obtain ⟨eH, k, v, ek, rfl⟩ := y
  subst eH
  obtain ⟨w, ew⟩ := key_at e1 ek
  rw [List.getElem?_map, ew] at e
  cases e
  exact ⟨rv_kW k, hg, FK.refl⟩
theorem it_keysT {g0 : G} {H0 : Hp} {a : Addr} {od : Obj} {kvs : List (List Key × W)} {l : List (List Key × V)} (hd : H0 a = some (.frz od (.dT l))) (e1 : kvs.map (·.1) = l.map (·.1)) :
    ItOk E g0 H0 (Itkt a od l) (kvs.map fun p => ktW p.1) (fun g' => g' a = some (.dit true kvs)) := by
  intro i g H hg f ok
  have hd' := f.frz _ _ _ hd
  have hl : l.length = kvs.length := by simpa using (congrArg List.length e1).symm
  refine ⟨fun u e => ?_, fun h => ⟨hd', by simpa [hl] using h⟩⟩
  have hi : i < kvs.length := by
    have := (List.getElem?_eq_some_iff.mp e).1
    simpa using this
  refine ⟨⟨hd', by omega⟩, fun x H' y => ?_⟩
  obtain ⟨eH, k, v, q, ek, rfl, hq⟩ := y
  subst eH
  obtain ⟨w, ew⟩ := key_at e1 ek
  rw [List.getElem?_map, ew] at e
  cases e
  exact ⟨rv_tup hq (rvs_kW k), hg, FK.refl⟩
theorem it_items {g0 : G} {H0 : Hp} {a : Addr} {od : Obj} {kvs : List (Key × W)} {l : List (Key × V)} (h0 : GR E g0 H0) (hd : H0 a = some (.frz od (.dK l))) (e1 : kvs.map (·.1) = l.map (·.1)) (e2 : RVs E.K H0 (kvs.map (·.2)) (l.map (·.2))) :
    ItOk E g0 H0 (Iti a od l) (kvs.map fun p => .tup [kW p.1, p.2]) (fun g' => g' a = some (.dic true kvs)) := by
  intro i g H hg f ok
  have hd' := f.frz _ _ _ hd
  have t := f.tk h0
  have hl : l.length = kvs.length := by simpa using (congrArg List.length e1).symm
  refine ⟨fun u e => ?_, fun h => ⟨hd', by simpa [hl] using h⟩⟩
  have hi : i < kvs.length := by
    have := (List.getElem?_eq_some_iff.mp e).1
    simpa using this
  refine ⟨⟨hd', by omega⟩, fun x H' y => ?_⟩
  obtain ⟨T, k, v, ek, rfl, hT, eH⟩ := y
  subst eH
  obtain ⟨w, ew⟩ := key_at e1 ek
  rw [List.getElem?_map, ew] at e
  cases e
  have ew2 : (kvs.map (·.2))[i]? = some w := by rw [List.getElem?_map, ew]; rfl
  obtain ⟨v', ev, rv⟩ := e2.get ew2
  rw [List.getElem?_map, ek] at ev
  cases ev
  have tn : TK H (upd H T (.tup [kV k, v])) := TK.new hT
  exact ⟨rv_tup upd_same (.cons (rv_kW k) (.cons ((rv.keep t).keep tn) .nil)), hg.new' hT, FK.new' hT⟩
theorem l_keys {te : TE3} {σ : L2.St} {R : It → Hp → Prop} (h : liftI E w (fun x s g r => te x s g fun w g1 => keysS w g1 r) σ H R) : iKeys (tLk (liftE E w te)) σ H R := by
  obtain ⟨s, g, r, x, hs, hg, h, kr, kx⟩ := h
  refine ⟨s, g, _, x, hs, hg, h, fun a g1 v H1 hg1 ra f1 h1 => ?_, kx⟩
  change keysS a g1 r at h1
  unfold keysS at h1
  split at h1
  · rename_i p
    simp only [RV] at ra; subst ra
    split at h1
    · rename_i lk kvs eg
      obtain ⟨l, hd, e1, e2⟩ := hg1 _ _ eg
      cases lk with
      | true =>
        rw [gup_self eg] at h1
        obtain ⟨od, hd⟩ := hd
        exact .inl ⟨p, od, rfl, .inl ⟨l, hd, kr _ _ g1 _ H1 hg1 f1 (it_keys hd e1) h1⟩⟩
      | false =>
        refine .inr ⟨p, _, rfl, hd, trivial, fun od => ?_⟩
        obtain ⟨q1, q2⟩ := lock_dic hg1 eg hd e1 e2 od
        exact ⟨p, od, rfl, .inl ⟨l, upd_same, kr _ _ _ _ _ q1 (f1.trans q2) (it_keys upd_same e1) h1⟩⟩
    · rename_i lk kvs eg
      obtain ⟨l, hd, e1, e2⟩ := hg1 _ _ eg
      cases lk with
      | true =>
        rw [gup_self eg] at h1
        obtain ⟨od, hd⟩ := hd
        exact .inl ⟨p, od, rfl, .inr ⟨l, hd, kr _ _ g1 _ H1 hg1 f1 (it_keysT hd e1) h1⟩⟩
      | false =>
        refine .inr ⟨p, _, rfl, hd, trivial, fun od => ?_⟩
        obtain ⟨q1, q2⟩ := lock_dit hg1 eg hd e1 e2 od
        exact ⟨p, od, rfl, .inr ⟨l, upd_same, kr _ _ _ _ _ q1 (f1.trans q2) (it_keysT upd_same e1) h1⟩⟩
    · exact h1.elim
  · exact h1.elim
theorem l_items {te : TE3} {σ : L2.St} {R : It → Hp → Prop} (h : liftI E w (fun x s g r => te x s g fun w g1 => itemsS w g1 r) σ H R) : iItems (tLk (liftE E w te)) σ H R := by
  obtain ⟨s, g, r, x, hs, hg, h, kr, kx⟩ := h
  refine ⟨s, g, _, x, hs, hg, h, fun a g1 v H1 hg1 ra f1 h1 => ?_, kx⟩
  change itemsS a g1 r at h1
  unfold itemsS at h1
  split at h1
  · rename_i p
    simp only [RV] at ra; subst ra
    split at h1
    · rename_i lk kvs eg
      obtain ⟨l, hd, e1, e2⟩ := hg1 _ _ eg
      cases lk with
      | true =>
        rw [gup_self eg] at h1
        obtain ⟨od, hd⟩ := hd
        exact .inl ⟨p, od, l, rfl, hd, kr _ _ g1 _ H1 hg1 f1 (it_items hg1 hd e1 e2) h1⟩
      | false =>
        refine .inr ⟨p, _, rfl, hd, trivial, fun od => ?_⟩
        obtain ⟨q1, q2⟩ := lock_dic hg1 eg hd e1 e2 od
        exact ⟨p, od, l, rfl, upd_same, kr _ _ _ _ _ q1 (f1.trans q2) (it_items q1 upd_same e1 (e2.keep (q2.tk hg1))) h1⟩
    · exact h1.elim
  · exact h1.elim
end
section
variable {X : Cx} {E : Env3} {w : WX}
theorem ty_dic {a : W} {v : V} {g : G} {H : Hp} (h : isDic a g) (r : RV E.K H a v) (hg : GR E g H) : ∃ p, a = .ref p ∧ v = .ref p ∧ IsD H p := by
  cases a with
  | ref p =>
    rw [RV] at r; subst r
    unfold isDic at h
    simp only at h
    split at h
    · rename_i lk kvs e; obtain ⟨l, hd, _⟩ := hg _ _ e; exact ⟨p, rfl, rfl, .inl ⟨l, hd.rd⟩⟩
    · rename_i lk kvs e; obtain ⟨l, hd, _⟩ := hg _ _ e; exact ⟨p, rfl, rfl, .inr ⟨l, hd.rd⟩⟩
    · exact h.elim
  | _ => exact h.elim
theorem dget_of {g g0 : G} {H H0 : Hp} {p : Addr} {y z : W} {u v : V} {q : VK3} {Q : VK} (hg : GR E g H) (ry : RV E.K H y u) (rz : RV E.K H z v) (h : dgetS (.ref p) y z g q) (kq : KQ E g0 H0 q Q) (f : FK g0 H0 g H) : ∃ o, DGet H p u o ∧ Q (o.getD v) H := by
  have h' : dicAt g p y fun o => q (o.getD z) g := h
  obtain ⟨o, o', h, d, r⟩ := dicAt_get hg ry h'
  refine ⟨o', d, ?_⟩
  rcases r with ⟨rfl, rfl⟩ | ⟨w', u', rfl, rfl, rr⟩
  · exact kq z g v H hg rz f h
  · exact kq w' g u' H hg rr f h
theorem l_dget1 {to te : TE3} {σ : L2.St} {H : Hp} {Q : VK} (h : liftE E w (fun x s g q => to x s g fun a g1 => isDic a g1 ∧ te x s g1 fun y g2 => dgetS a y .non g2 q) σ H Q) : tDGet1 (liftE E w to) (liftE E w te) σ H Q := by
  obtain ⟨s, g, q, x, hs, hg, h, kq, kx⟩ := h
  refine ⟨s, g, _, x, hs, hg, h, fun a g1 v H1 hg1 ra f1 h1 => ?_, kx⟩
  obtain ⟨p, rfl, rfl, d⟩ := ty_dic h1.1 ra hg1
  refine ⟨p, rfl, d, s, g1, _, x, hs.keep (f1.tk hg), hg1, h1.2, fun y g2 u H2 hg2 ry f2 h2 => ?_, kx.at f1⟩
  exact dget_of hg2 ry rv_non h2 kq (f1.trans f2)
theorem l_dget2 {to te td : TE3} {σ : L2.St} {H : Hp} {Q : VK} (h : liftE E w (fun x s g q => to x s g fun a g1 => isDic a g1 ∧ te x s g1 fun y g2 => td x s g2 fun z g3 => dgetS a y z g3 q) σ H Q) : tDGet2 (liftE E w to) (liftE E w te) (liftE E w td) σ H Q := by
  obtain ⟨s, g, q, x, hs, hg, h, kq, kx⟩ := h
  refine ⟨s, g, _, x, hs, hg, h, fun a g1 v H1 hg1 ra f1 h1 => ?_, kx⟩
  obtain ⟨p, rfl, rfl, d⟩ := ty_dic h1.1 ra hg1
  have t1 := f1.tk hg
  refine ⟨p, rfl, d, s, g1, _, x, hs.keep t1, hg1, h1.2, fun y g2 u H2 hg2 ry f2 h2 => ?_, kx.at f1⟩
  have t2 := f2.tk hg1
  refine ⟨s, g2, _, x, (hs.keep t1).keep t2, hg2, h2, fun z g3 v3 H3 hg3 rz f3 h3 => ?_, kx.at (f1.trans f2)⟩
  exact dget_of hg3 (ry.keep (f3.tk hg2)) rz h3 kq ((f1.trans f2).trans f3)
theorem l_dsetd {to te td : TE3} {σ : L2.St} {H : Hp} {Q : VK} (h : liftE E w (fun x s g q => to x s g fun a g1 => isDic a g1 ∧ te x s g1 fun y g2 => td x s g2 fun z g3 => setdS a y z g3 q) σ H Q) : tDSetd (liftE E w to) (liftE E w te) (liftE E w td) σ H Q := by
  obtain ⟨s, g, q, x, hs, hg, h, kq, kx⟩ := h
  refine ⟨s, g, _, x, hs, hg, h, fun a g1 v H1 hg1 ra f1 h1 => ?_, kx⟩
  obtain ⟨p, rfl, rfl, d⟩ := ty_dic h1.1 ra hg1
  have t1 := f1.tk hg
  refine ⟨p, rfl, d, s, g1, _, x, hs.keep t1, hg1, h1.2, fun y g2 u H2 hg2 ry f2 h2 => ?_, kx.at f1⟩
  have t2 := f2.tk hg1
  refine ⟨s, g2, _, x, (hs.keep t1).keep t2, hg2, h2, fun z g3 v3 H3 hg3 rz f3 h3 => ?_, kx.at (f1.trans f2)⟩
  have f13 := (f1.trans f2).trans f3
  unfold setdS at h3
  simp only at h3
  split at h3
  · rename_i kvs k eg ek
    obtain ⟨l, hd, e1, e2⟩ := hg3 _ _ eg
    have hl : DRel E.K H3 kvs l := ⟨e1, e2⟩
    obtain ⟨hlen, h3⟩ := h3
    refine ⟨l, k, hd, rv_key ek (ry.keep (f3.tk hg2)), by rw [hl.length]; exact hlen, fun v' e => ?_, fun e => ?_⟩
    · rcases hl.get k with ⟨q1, q2⟩ | ⟨w', u', q1, q2, q3⟩
      · rw [e] at q2; cases q2
      · rw [e] at q2; cases q2
        rw [q1] at h3
        exact kq _ g3 _ H3 hg3 q3 f13 h3
    · rcases hl.get k with ⟨q1, q2⟩ | ⟨w', u', q1, q2, q3⟩
      · rw [q1] at h3
        have t : TK H3 (upd H3 p (.dK (putK l k v3))) := hg3.tk eg
        have hp := (hl.keep t).put k (rz.keep t)
        exact kq _ _ _ _ (hg3.wr (o' := .dic false (dPut kvs k z)) eg ⟨_, upd_same, hp.keys, hp.vals⟩) (rz.keep t) (f13.trans (FK.wr eg hd (fun _ _ z => nomatch z))) h3
      · rw [e] at q2; cases q2
  · exact h3.elim
theorem l_dpop1 {to te : TE3} {σ : L2.St} {H : Hp} {Q : VK} (h : liftE E w (fun x s g q => to x s g fun a g1 => isDic a g1 ∧ te x s g1 fun y g2 => dpopS a y g2 q) σ H Q) : tDPop1 (liftE E w to) (liftE E w te) σ H Q := by
  obtain ⟨s, g, q, x, hs, hg, h, kq, kx⟩ := h
  refine ⟨s, g, _, x, hs, hg, h, fun a g1 v H1 hg1 ra f1 h1 => ?_, kx⟩
  obtain ⟨p, rfl, rfl, d⟩ := ty_dic h1.1 ra hg1
  refine ⟨p, rfl, d, s, g1, _, x, hs.keep (f1.tk hg), hg1, h1.2, fun y g2 u H2 hg2 ry f2 h2 => ?_, kx.at f1⟩
  unfold dpopS at h2
  simp only at h2
  split at h2
  · rename_i kvs k eg ek
    obtain ⟨l, hd, e1, e2⟩ := hg2 _ _ eg
    have hl : DRel E.K H2 kvs l := ⟨e1, e2⟩
    obtain ⟨v', ev, h2⟩ := h2
    rcases hl.get k with ⟨q1, q2⟩ | ⟨w', u', q1, q2, q3⟩
    · rw [ev] at q1; cases q1
    · rw [ev] at q1; cases q1
      have t : TK H2 (upd H2 p (.dK (dropK l k))) := hg2.tk eg
      have hp := (hl.keep t).del k
      exact ⟨l, k, u', hd, rv_key ek ry, q2, kq _ _ _ _ (hg2.wr (o' := .dic false (dDel kvs k)) eg ⟨_, upd_same, hp.keys, hp.vals⟩) (q3.keep t) ((f1.trans f2).trans (FK.wr eg hd (fun _ _ z => nomatch z))) h2⟩
  · exact h2.elim
theorem l_dpop2 {to te td : TE3} {σ : L2.St} {H : Hp} {Q : VK} (h : liftE E w (fun x s g q => to x s g fun a g1 => isDic a g1 ∧ te x s g1 fun y g2 => td x s g2 fun z g3 => dpop2S a y z g3 q) σ H Q) : tDPop2 (liftE E w to) (liftE E w te) (liftE E w td) σ H Q := by
  obtain ⟨s, g, q, x, hs, hg, h, kq, kx⟩ := h
  refine ⟨s, g, _, x, hs, hg, h, fun a g1 v H1 hg1 ra f1 h1 => ?_, kx⟩
  obtain ⟨p, rfl, rfl, d⟩ := ty_dic h1.1 ra hg1
  have t1 := f1.tk hg
  refine ⟨p, rfl, d, s, g1, _, x, hs.keep t1, hg1, h1.2, fun y g2 u H2 hg2 ry f2 h2 => ?_, kx.at f1⟩
  have t2 := f2.tk hg1
  refine ⟨s, g2, _, x, (hs.keep t1).keep t2, hg2, h2, fun z g3 v3 H3 hg3 rz f3 h3 => ?_, kx.at (f1.trans f2)⟩
  have f13 := (f1.trans f2).trans f3
  unfold dpop2S at h3
  simp only at h3
  split at h3
  · rename_i kvs k eg ek
    obtain ⟨l, hd, e1, e2⟩ := hg3 _ _ eg
    have hl : DRel E.K H3 kvs l := ⟨e1, e2⟩
    refine ⟨l, k, hd, rv_key ek (ry.keep (f3.tk hg2)), fun v' e => ?_, fun e => ?_⟩
    · rcases hl.get k with ⟨q1, q2⟩ | ⟨w', u', q1, q2, q3⟩
      · rw [e] at q2; cases q2
      · rw [e] at q2; cases q2
        rw [q1] at h3
        have t : TK H3 (upd H3 p (.dK (dropK l k))) := hg3.tk eg
        have hp := (hl.keep t).del k
        exact kq _ _ _ _ (hg3.wr (o' := .dic false (dDel kvs k)) eg ⟨_, upd_same, hp.keys, hp.vals⟩) (q3.keep t) (f13.trans (FK.wr eg hd (fun _ _ z => nomatch z))) h3
    · rcases hl.get k with ⟨q1, q2⟩ | ⟨w', u', q1, q2, q3⟩
      · rw [q1] at h3
        exact kq _ g3 _ H3 hg3 rz f13 h3
      · rw [e] at q2; cases q2
  · exact h3.elim
theorem l_lrev (hK : X.K = E.K) {te : TE3} {σ : L2.St} {H : Hp} {Q : VK} (h : liftE E w (fun x s g q => te x s g fun w g1 => revS w g1 q) σ H Q) : tLstRev X.K (liftE E w te) σ H Q := by
  obtain ⟨s, g, q, x, hs, hg, h, kq, kx⟩ := h
  refine ⟨s, g, _, x, hs, hg, h, fun a g1 v H1 hg1 ra f1 h1 => ?_, kx⟩
  change revS a g1 q at h1
  cases a with
  | ref p =>
    rw [RV] at ra; subst ra
    obtain ⟨xs, e1, h1⟩ := lstAt_inv h1
    obtain ⟨ys, q1, r1⟩ := hg1 _ _ e1
    exact ⟨p, ys, rfl, SqL.of q1, fun l nl => new_lst hg1 nl r1.reverse h1 (kq.at f1)⟩
  | scr xs =>
    obtain ⟨p, ys, rfl, ht, hr⟩ := rv_scr_inv ra
    exact ⟨p, ys, rfl, by rw [hK]; exact ht.sq, fun l nl => new_lst hg1 nl hr.reverse h1 (kq.at f1)⟩
  | lv xs =>
    obtain ⟨p, ys, rfl, ht, hr⟩ := rv_lv_inv ra
    exact ⟨p, ys, rfl, by rw [hK]; exact ht.sq, fun l nl => new_lst hg1 nl hr.reverse h1 (kq.at f1)⟩
  | _ => exact h1.elim
theorem l_dic1 {tk tv : TE3} {σ : L2.St} {H : Hp} {Q : VK} (h : liftE E w (fun x s g q => ∀ p, g p = none → tk x s (gup g p (.dic false [])) fun y g1 => tv x s g1 fun z g2 => g2 p = some (.dic false []) ∧ ∃ c, toKey y = some c ∧ q (.ref p) (gup g2 p (.dic false [(c, z)]))) σ H Q) :
    tDisp [(liftE E w tk, liftE E w tv)] σ H Q := by
  obtain ⟨s, g, q, x, hs, hg, h, kq, kx⟩ := h
  intro p np
  have f0 : FK g H (gup g p (.dic false [])) (upd H p (.dK [])) := FK.new np
  have t0 := f0.tk hg
  have hg0 : GR E (gup g p (.dic false [])) (upd H p (.dK [])) := hg.new (o := .dic false []) np ⟨[], upd_same, rfl, .nil⟩
  refine ⟨s, _, _, x, hs.keep t0, hg0, h p (hg.free np), fun a g1 v H1 hg1 ra f1 h1 => ?_, kx.at f0⟩
  have t1 := f1.tk hg0
  refine ⟨s, g1, _, x, (hs.keep t0).keep t1, hg1, h1, fun b g2 u H2 hg2 rb f2 h2 => ?_, kx.at (f0.trans f1)⟩
  obtain ⟨eg, c, ec, h2⟩ := h2
  obtain ⟨l, hd, e1, e2⟩ := hg2 _ _ eg
  have el : l = [] := by simpa using e1.symm
  subst el
  have ev := rv_key ec (ra.keep (f2.tk hg1))
  subst ev
  have t : TK H2 (upd H2 p (.dK [(c, u)])) := hg2.tk eg
  refine ⟨hd, [(c, u)], rfl, Nat.le_of_ble_eq_true rfl, ?_⟩
  show Q (.ref p) (upd H2 p (.dK [(c, u)]))
  exact kq _ _ _ _ (hg2.wr (o' := .dic false [(c, b)]) eg ⟨_, upd_same, rfl, .cons (rb.keep t) .nil⟩) rv_ref (((f0.trans f1).trans f2).trans (FK.wr eg hd (fun _ _ z => nomatch z))) h2
theorem l_dic2 {tk tv tk2 tv2 : TE3} {σ : L2.St} {H : Hp} {Q : VK} (h : liftE E w (fun x s g q => ∀ p, g p = none → tk x s (gup g p (.dic false [])) fun y g1 => tv x s g1 fun z g2 => tk2 x s g2 fun y2 g3 => tv2 x s g3 fun z2 g4 => g4 p = some (.dic false []) ∧ ∃ c c2, toKey y = some c ∧ toKey y2 = some c2 ∧ c ≠ c2 ∧ q (.ref p) (gup g4 p (.dic false [(c, z), (c2, z2)]))) σ H Q) :
    tDisp [(liftE E w tk, liftE E w tv), (liftE E w tk2, liftE E w tv2)] σ H Q := by
  obtain ⟨s, g, q, x, hs, hg, h, kq, kx⟩ := h
  intro p np
  have f0 : FK g H (gup g p (.dic false [])) (upd H p (.dK [])) := FK.new np
  have t0 := f0.tk hg
  have hg0 : GR E (gup g p (.dic false [])) (upd H p (.dK [])) := hg.new (o := .dic false []) np ⟨[], upd_same, rfl, .nil⟩
  refine ⟨s, _, _, x, hs.keep t0, hg0, h p (hg.free np), fun a g1 v H1 hg1 ra f1 h1 => ?_, kx.at f0⟩
  have t1 := f1.tk hg0
  refine ⟨s, g1, _, x, (hs.keep t0).keep t1, hg1, h1, fun b g2 u H2 hg2 rb f2 h2 => ?_, kx.at (f0.trans f1)⟩
  have t2 := f2.tk hg1
  refine ⟨s, g2, _, x, ((hs.keep t0).keep t1).keep t2, hg2, h2, fun a2 g3 v2 H3 hg3 ra2 f3 h3 => ?_, kx.at ((f0.trans f1).trans f2)⟩
  have t3 := f3.tk hg2
  refine ⟨s, g3, _, x, (((hs.keep t0).keep t1).keep t2).keep t3, hg3, h3, fun b2 g4 u2 H4 hg4 rb2 f4 h4 => ?_, kx.at (((f0.trans f1).trans f2).trans f3)⟩
  have t4 := f4.tk hg3
  obtain ⟨eg, c, c2, ec, ec2, hne, h4⟩ := h4
  obtain ⟨l, hd, e1, e2⟩ := hg4 _ _ eg
  have el : l = [] := by simpa using e1.symm
  subst el
  have ev := rv_key ec (((ra.keep t2).keep t3).keep t4)
  subst ev
  have ev2 := rv_key ec2 (ra2.keep t4)
  subst ev2
  have t : TK H4 (upd H4 p (.dK [(c, u), (c2, u2)])) := hg4.tk eg
  have em : mergeK [] [(c, u), (c2, u2)] = [(c, u), (c2, u2)] := by
    simp [mergeK, putK, hne]
  refine ⟨hd, [(c, u), (c2, u2)], rfl, Nat.le_of_ble_eq_true rfl, ?_⟩
  rw [em]
  exact kq _ _ _ _ (hg4.wr (o' := .dic false [(c, b), (c2, b2)]) eg ⟨_, upd_same, rfl, .cons (((rb.keep t3).keep t4).keep t) (.cons (rb2.keep t) .nil)⟩) rv_ref (((((f0.trans f1).trans f2).trans f3).trans f4).trans (FK.wr eg hd (fun _ _ z => nomatch z))) h4
end
section
variable {E : Env3} {g g' : G} {H H' : Hp} {w : WX}
theorem frz_at (hg : GR E g H) {p : Addr} {xs : List W} (eg : g p = some (.lst xs)) : ∃ ys, H p = some (.lst ys) ∧ RVs E.K H xs ys ∧ ∀ od, GR E (gdel g p) (upd H p (.frz od (.lst ys))) ∧ FK g H (gdel g p) (upd H p (.frz od (.lst ys))) ∧ TK H (upd H p (.frz od (.lst ys))) ∧ RV E.K (upd H p (.frz od (.lst ys))) (.lv xs) (.ref p) := by
  obtain ⟨ys, e, r⟩ := hg _ _ eg
  refine ⟨ys, e, r, fun od => ?_⟩
  have t : TK H (upd H p (.frz od (.lst ys))) := hg.tk eg
  refine ⟨fun a o q => ?_, ⟨fun a u h n => ?_, fun a o u h => ?_⟩, t, ?_⟩
  · by_cases z : a = p
    · subst z; rw [gdel_same] at q; cases q
    · rw [gdel_ne z] at q; exact (hg a o q).keep t (upd_ne z)
  · have z : a ≠ p := fun z => by subst z; rw [eg] at n; cases n
    exact ⟨by rw [upd_ne z]; exact h, by rw [gdel_ne z]; exact n⟩
  · have z : a ≠ p := fun z => by subst z; rw [e] at h; cases h
    rw [upd_ne z]; exact h
  · rw [RV]; exact ⟨p, ys, rfl, ⟨od, upd_same⟩, r.keep t⟩
theorem l_frz {te : TE3} {σ : L2.St} {H : Hp} {Q : VK} (h : liftE E w (fun x s g q => te x s g fun w g1 => frzS w g1 q) σ H Q) : tLk (liftE E w te) σ H Q := by
  obtain ⟨s, g, q, x, hs, hg, h, kq, kx⟩ := h
  refine ⟨s, g, _, x, hs, hg, h, fun a g1 v H1 hg1 ra f1 h1 => ?_, kx⟩
  have out : (∀ p xs, a = .ref p → g1 p = some (.lst xs) → False) → Q v H1 := fun n => by
    refine kq a g1 v H1 hg1 ra f1 ?_
    change frzS a g1 q at h1
    unfold frzS at h1
    split at h1
    · rename_i p
      split at h1
      · rename_i xs e; exact (n p xs rfl e).elim
      · exact h1
    · exact h1
  cases a with
  | ref p =>
    cases e : g1 p with
    | none => exact .inl (out fun p' xs e1 e2 => by cases e1; rw [e] at e2; cases e2)
    | some o =>
      cases o with
      | lst xs =>
        obtain ⟨ys, ey, r, k⟩ := frz_at hg1 e
        have ev : v = .ref p := by rw [RV] at ra; exact ra
        subst ev
        have h2 : q (.lv xs) (gdel g1 p) := by
          change frzS (.ref p) g1 q at h1
          unfold frzS at h1
          simpa only [e] using h1
        exact .inr ⟨p, _, rfl, ey, trivial, fun od => kq _ _ _ _ (k od).1 (k od).2.2.2 (f1.trans (k od).2.1) h2⟩
      | _ => exact .inl (out fun p' xs e1 e2 => by cases e1; rw [e] at e2; cases e2)
  | _ => exact .inl (out fun p' xs e1 e2 => by cases e1)
def tFz (t : TS) : TS := fun D σ H => t { D with nx := fun σ' H' => D.nx σ' H' ∨ ∃ d u, H' d = some u ∧ Mut (some u) ∧ ∀ od, D.nx σ' (upd H' d (.frz od u)) } σ H
theorem ps_fz {X : Cx} {st : Stmt} {t : TS} (h : PS X st t) : PS X st (tFz t) := by
  refine ⟨fun pins s σ H D I hw => ?_⟩
  refine thn (h.run pins s σ H _ I hw) fun f s1 q => ?_
  cases f with
  | next =>
    obtain ⟨σ', H', I2, q⟩ := q
    rcases q with q | ⟨d, u, hd, mu, q⟩
    · exact ⟨σ', _, I2, q⟩
    · obtain ⟨od, I3⟩ := I2.lock hd mu
      exact ⟨σ', _, I3, q od⟩
  | brk => exact q
  | cont => exact q
  | ret v => exact q
theorem frzI_out {i : Nat} {s : Sx} {g : G} {k : Sx → G → Prop} (h : frzI i s g k) (n : ∀ a xs, s[i]? = some (some (.ref a)) → g a = some (.lst xs) → False) : k s g := by
  unfold frzI at h
  split at h
  · rename_i a e1
    split at h
    · rename_i xs e2; exact (n a xs e1 e2).elim
    · exact h
  · exact h
theorem frzI_kn {i : Nat} {P : Sx → G → Prop} {N : L2.St → Hp → Prop} (k : KN E g H P N) :
    KN E g H (fun s g => frzI i s g P) (fun σ' H' => N σ' H' ∨ ∃ d u, H' d = some u ∧ Mut (some u) ∧ ∀ od, N σ' (upd H' d (.frz od u))) := fun s' g' σ' H' r1 r2 f n => by
  have n : frzI i s' g' P := n
  by_cases z : ∃ a xs, s'[i]? = some (some (.ref a)) ∧ g' a = some (.lst xs)
  · obtain ⟨a, xs, e1, e2⟩ := z
    obtain ⟨ys, ey, r, kk⟩ := frz_at r2 e2
    have n2 : P (s'.set i (some (.lv xs))) (gdel g' a) := by
      unfold frzI at n
      rw [e1] at n
      simpa only [e2] using n
    refine .inr ⟨a, _, ey, trivial, fun od => ?_⟩
    obtain ⟨v, ev, rv⟩ := r1.get e1
    rw [RV] at rv
    subst rv
    have r3 := SR.set (kk od).2.2.2 i (r1.keep (kk od).2.2.1)
    have es : σ'.set i (some (.ref a)) = σ' := by
      obtain ⟨hi, ei⟩ := List.getElem?_eq_some_iff.mp ev
      rw [← ei]; exact List.set_getElem_self hi
    rw [es] at r3
    exact k _ _ σ' _ r3 (kk od).1 (f.trans (kk od).2.1) n2
  · exact .inl (k s' g' σ' H' r1 r2 f (frzI_out n fun a xs e1 e2 => z ⟨a, xs, e1, e2⟩))
theorem l_fz {i : Nat} {ta : TS3} {D : Ends} {σ : L2.St} {H : Hp} (h : liftS E w (fun D s g => ta { D with nx := fun s' g' => frzI i s' g' D.nx } s g) D σ H) : tFz (liftS E w ta) D σ H := by
  obtain ⟨s, g, d, hs, hg, h, kd⟩ := h
  exact ⟨s, g, _, hs, hg, h, ⟨frzI_kn kd.nx, kd.rt, kd.bk, kd.ct, kd.ex⟩⟩
end
end L3
set_option maxRecDepth 100000
set_option maxHeartbeats 4000000
namespace PySem.SeqAt
open AutoSeq1 (wpAny_loadPart')
open MeetsSeq MeetsSeq2 MeetsSeq3 SeqRoads2
section
variable {prog : Program} {w : World}
theorem unlike_run {l b : Addr} {xs ys : Array Value} {p q : Nat} {d1 d2 : Option Addr} {t1 t2 : Array (Option Value)} {e : Nat → Bool} (hs : xs.size = ys.size) : ∀ m i : Nat, i + m = xs.size →
    MeetsIn prog w (Builtin.«list.__eq__.loop» ⟨[.ref l, .ref b, rawInt i, rawInt 3], []⟩) (fun A R s => (s.heap.get? l = some ⟨.type "list", d1, .seq xs p, t1⟩ ∧ s.heap.get? b = some ⟨.type "list", d2, .seq ys q, t2⟩) ∧
      (∀ j (h1 : j < xs.size) (h2 : j < ys.size), EqIn prog w A.in1 s xs[j] ys[j] (e j)) ∧ R (.ok (.ret (.bool ((List.range' i m).any fun j => !e j)))) s) := by
  intro m
  induction m with
  | zero =>
    rintro i hi A R ⟨hp, g, d, tk, os⟩ ⟨⟨a1, a2⟩, _, h⟩
    wp_walk using wpAny_loadPart' a1, wpAny_loadPart' a2
    have z1 : xs[((i : Nat) : Int).toNat]? = none := by simp; omega
    have z2 : ys[((i : Nat) : Int).toNat]? = none := by simp; omega
    rw [z1, z2]
    wp_walk using wpAny_loadPart' a1, wpAny_loadPart' a2
    show R (.ok (.ret (.bool (xs.size != ys.size)))) _
    rw [hs]
    simpa using h
  | succ m ih =>
    rintro i hi A R ⟨hp, g, d, tk, os⟩ ⟨⟨a1, a2⟩, he, h⟩
    wp_walk using wpAny_loadPart' a1, wpAny_loadPart' a2
    have l1 : i < xs.size := by omega
    have l2 : i < ys.size := by omega
    have z1 : xs[((i : Nat) : Int).toNat]? = some xs[i] := by simp [l1]
    have z2 : ys[((i : Nat) : Int).toNat]? = some ys[i] := by simp [l2]
    rw [List.range'_succ, List.any_cons] at h
    rw [z1, z2]
    refine wpAny_bind (he i l1 l2 _ _ ?_)
    cases k : e i with
    | true =>
      rw [k] at h
      wp_walk
      rw [show ((i : Int) + 1) = ((i + 1 : Nat) : Int) from rfl]
      refine ⟨plainId_quiet plain_eq_loop _, codeAny_builtin entry_eq_loop ?_⟩
      rw [Around.under_plainId plain_eq_loop _]
      exact ih (i + 1) (by omega) A R _ ⟨⟨a1, a2⟩, he, by simpa using h⟩
    | false =>
      rw [k] at h
      wp_walk using wpAny_loadPart' a1, wpAny_loadPart' a2
      rw [z1, z2]
      wp_walk
      simpa using h
theorem unlike_lists {l b : Addr} {xs ys : Array Value} {p q : Nat} {d1 d2 : Option Addr} {t1 t2 : Array (Option Value)} {e : Nat → Bool} (hs : xs.size = ys.size) :
    MeetsIn prog w (Builtin.«list.__ne__» ⟨[.ref l, .ref b], []⟩) (fun A R s => (s.heap.get? l = some ⟨.type "list", d1, .seq xs p, t1⟩ ∧ s.heap.get? b = some ⟨.type "list", d2, .seq ys q, t2⟩) ∧
      (∀ j (h1 : j < xs.size) (h2 : j < ys.size), EqIn prog w A.in1 s xs[j] ys[j] (e j)) ∧ R (.ok (.ret (.bool (!(List.range xs.size).all e)))) s) := by
  rintro A R ⟨hp, g, d, tk, os⟩ ⟨⟨a1, a2⟩, he, h⟩
  have f3 := AutoSeq1.sub_list_list
  have hne : ¬ (xs.size != ys.size) = true := by simp [hs]
  wp_walk using wpAny_loadPart' a1, wpAny_loadPart' a2
  refine ⟨plainId_quiet plain_eq_loop _, codeAny_builtin entry_eq_loop ?_⟩
  rw [Around.under_plainId plain_eq_loop _]
  have e2 : ((List.range' 0 xs.size).any fun j => !e j) = !(List.range xs.size).all e := by
    rw [← List.range_eq_range', List.not_all_eq_any_not]
  exact unlike_run hs xs.size 0 (Nat.zero_add _) A R _ ⟨⟨a1, a2⟩, he, by rw [e2]; exact h⟩
end
end PySem.SeqAt
namespace PySem.W
open PySem PySem.Calls PyProof.Rows PySem.SeqAt
theorem ne_listsT {prog : Program} {w : World} {A : Around} {E : Value → Shared → Prop} {s : Shared} {n : Nat} {l b : Addr} {xs ys : Array Value} {e : Nat → Bool} {Q : Value → Shared → Prop} (hl : s.heap.IsList l xs) (hb : s.heap.IsList b ys) (hs : xs.size = ys.size)
    (t : ∀ j (h1 : j < xs.size) (h2 : j < ys.size), EqTree prog w s n xs[j] ys[j] (e j)) (hu : A.units + (n + 1) < cLine) (h : Q (.bool (!(List.range xs.size).all e)) s) : wpAny (model prog w) A (compareOp .NotEq (.ref l) (.ref b)) Q E s := by
  obtain ⟨⟨c1, d1, k1, t1⟩, o1, r1, m1, s1⟩ := id hl
  obtain ⟨⟨c2, d2, k2, t2⟩, o2, r2, m2, s2⟩ := id hb
  simp only at r1 s1 r2 s2
  subst r1 s1 r2 s2
  exact wpAny_richCompare_same_room (T := "list") (op := .NotEq) ⟨_, o1, rfl⟩ ⟨_, o2, rfl⟩ PySem.F.slot_list_ne (call_meetsIn PySem.F.slot_list_ne ⟨_, o1, rfl⟩ PySem.F.entry_list_ne (PySem.F.args_list_ne_2 _ _) (unlike_lists hs)
    ⟨⟨o1, o2⟩, fun j h1 h2 => (t j h1 h2).at A.in1 (by show A.units + 1 + n < cLine; omega), show Value.bool (!(List.range xs.size).all e) ≠ Value.notImplemented ∧ Q (.bool (!(List.range xs.size).all e)) s from ⟨(fun x => nomatch x), h⟩⟩) (by omega)
end PySem.W
namespace PySem.W
open PySem PySem.Calls PyProof.Rows PySem.SeqAt
theorem ne_dictsT {prog : Program} {w : World} {A : Around} {E : Value → Shared → Prop} {s : Shared} {K : Type} [DecidableEq K] {knd : KeyKind prog w K} {n : Nat} {a b : Addr} {ka kb : List (K × Value)} {e : K → Bool} {Q : Value → Shared → Prop} (ha : (a == sysModules) = false) (hb : (b == sysModules) = false)
    (da : s.heap.DictOf knd a ka) (db : s.heap.DictOf knd b kb) (t : ∀ k v y, (k, v) ∈ ka → valueAt kb k = some y → EqTree prog w s n v y (e k)) (hu : A.units + (n + 1) < cLine)
    (h : Q (.bool (!(ka.length == kb.length && ka.all fun p => (valueAt kb p.1).isSome && e p.1))) s) : wpAny (model prog w) A (compareOp .NotEq (.ref a) (.ref b)) Q E s := by
  have hits : ka.length = kb.length → KeqHitsIn prog w A.in1 s kb ka (ka.all fun p => (valueAt kb p.1).isSome && e p.1) := fun _ => KeqHitsIn.of _ fun k v y hm hv => (t k v y hm hv).at A.in1 (by show A.units + 1 + _ < cLine; omega)
  refine wpAny_richCompare_same_room (op := .NotEq) da.typeIs db.typeIs PySem.F.slot_dict_ne (wpAny_call_entry PySem.F.slot_dict_ne da.typeIs PySem.F.entry_dict_ne ?_ (PySem.F.args_dict_ne_2 _ _)) (by omega)
  show wpAny _ _ (Builtin.Dict.dictSlotArgs "__ne__" ⟨[.ref a, .ref b], []⟩ >>= _) _ _ s
  refine wpAny_bind ?_
  unfold Builtin.Dict.dictSlotArgs
  refine wpAny_bind (wpAny_notOrdered_dict da.typeIs ?_)
  show wpAny _ _ (pure (Value.ref a, Value.ref b)) _ _ s
  refine wpAny_pure ?_
  refine wpAny_bind (wpAny_isInstance (T := "dict") db.typeIs PySem.F.sub_dict_dict ?_)
  simp only [Bool.not_true, Bool.false_eq_true, if_false]
  refine wpAny_bind (wpAny_pure (wpAny_bind (wpAny_pure ?_)))
  refine wpAny_bind (keq_samePairsIn ha hb da db hits ?_)
  refine wpAny_pure ⟨_, rfl, ?_, ?_⟩
  · exact fun x => nomatch x
  · simpa using h
end PySem.W
namespace L3
open PySem PySem.Spec L2
section
variable {X : Cx} {E : Env3} {pins : List (Addr × Obj)} {σ : L2.St} {H : Hp} {s : Shared} {g : G}
structure DR (E : Env3) (H : Hp) (ka : List (Key × W)) (va : List (Key × Value)) : Prop where
  keys : va.map (·.1) = ka.map (·.1)
  mem : ∀ k v, (k, v) ∈ va → ∃ w u, (k, w) ∈ ka ∧ RelV u v ∧ RV E.K H w u
  val : ∀ k, (dGet ka k = none ∧ PySem.valueAt va k = none) ∨ ∃ w u v, dGet ka k = some w ∧ PySem.valueAt va k = some v ∧ RelV u v ∧ RV E.K H w u
theorem dr_mem {ka : List (Key × W)} : ∀ {l : List (Key × V)} {va : List (Key × Value)}, DRel E.K H ka l → KV l va → ∀ k v, (k, v) ∈ va → ∃ w u, (k, w) ∈ ka ∧ RelV u v ∧ RV E.K H w u := by
  induction ka with
  | nil =>
    intro l va h r k v hm
    rw [h.nil_inv] at r
    cases r
    cases hm
  | cons p ka ih =>
    intro l va h r k v hm
    obtain ⟨q, l', rfl, e, rv, h'⟩ := h.cons_inv
    cases r with
    | @cons _ q2 _ va' h1 t =>
      rcases List.mem_cons.mp hm with z | z
      · subst z
        exact ⟨p.2, q.2, by rw [show k = p.1 from h1.1.symm.trans e.symm]; exact List.mem_cons_self, h1.2, rv⟩
      · obtain ⟨w, u, k1, k2, k3⟩ := ih h' t k v z
        exact ⟨w, u, List.mem_cons_of_mem _ k1, k2, k3⟩
theorem dr_of {ka : List (Key × W)} {l : List (Key × V)} {va : List (Key × Value)} (h : DRel E.K H ka l) (r : KV l va) : DR E H ka va := by
  refine ⟨r.keys.symm.trans h.keys.symm, dr_mem h r, fun k => ?_⟩
  have q := r.val k
  rcases h.get k with ⟨e1, e2⟩ | ⟨w, u, e1, e2, e3⟩
  · rw [e2] at q
    cases hv : PySem.valueAt va k with
    | none => exact .inl ⟨e1, rfl⟩
    | some v => rw [hv] at q; exact (show False from q).elim
  · rw [e2] at q
    cases hv : PySem.valueAt va k with
    | none => rw [hv] at q; exact (show False from q).elim
    | some v => rw [hv] at q; exact .inr ⟨w, u, v, e1, rfl, q, e3⟩
theorem dr_eq {ka kb : List (Key × W)} {va vb : List (Key × Value)} {e : Key → Bool} (a : DR E H ka va) (b : DR E H kb vb) : (va.length == vb.length && va.all fun p => (PySem.valueAt vb p.1).isSome && e p.1) = dEq ka kb e := by
  have l1 : va.length = ka.length := by simpa using congrArg List.length a.keys
  have l2 : vb.length = kb.length := by simpa using congrArg List.length b.keys
  have hk : ∀ k, (PySem.valueAt vb k).isSome = (dGet kb k).isSome := fun k => by
    rcases b.val k with ⟨e1, e2⟩ | ⟨w, u, v, e1, e2, _⟩
    · rw [e1, e2]; rfl
    · rw [e1, e2]; rfl
  unfold dEq
  rw [l1, l2]
  congr 1
  have e1 : (va.all fun p => (PySem.valueAt vb p.1).isSome && e p.1) = (va.map (·.1)).all fun k => (dGet kb k).isSome && e k := by
    rw [List.all_map]
    congr 1
    funext p
    simp [hk]
  have e2 : (ka.all fun p => (dGet kb p.1).isSome && e p.1) = (ka.map (·.1)).all fun k => (dGet kb k).isSome && e k := by rw [List.all_map]; rfl
  rw [e1, e2, a.keys]
theorem two_at {xs ys : List W} {us us' : List V} {vs vs' : List Value} (r : RVs E.K H xs us) (l : Vals us vs) (r' : RVs E.K H ys us') (l' : Vals us' vs') {j : Nat} (h1 : j < vs.toArray.size) (h2 : j < vs'.toArray.size) :
    ∃ x y u u', xs[j]? = some x ∧ ys[j]? = some y ∧ RV E.K H x u ∧ RV E.K H y u' ∧ RelV u vs.toArray[j] ∧ RelV u' vs'.toArray[j] := by
  have e1 : j < xs.length := by rw [← r.length, l.length]; simpa using h1
  have e2 : j < ys.length := by rw [← r'.length, l'.length]; simpa using h2
  obtain ⟨u, k1, k2⟩ := r.get (List.getElem?_eq_getElem e1)
  obtain ⟨u', k3, k4⟩ := r'.get (List.getElem?_eq_getElem e2)
  obtain ⟨v, k5, k6⟩ := l.get k1
  obtain ⟨v', k7, k8⟩ := l'.get k3
  refine ⟨_, _, u, u', List.getElem?_eq_getElem e1, List.getElem?_eq_getElem e2, k2, k4, ?_, ?_⟩
  · rw [List.getElem?_eq_getElem (by simpa using h1)] at k5; cases k5; simpa using k6
  · rw [List.getElem?_eq_getElem (by simpa using h2)] at k7; cases k7; simpa using k8
theorem tree_of (I : L2.Inv X pins σ H s) (hK : X.K = E.K) (hg : GR E g H) {n : Nat} {x y : W} {b : Bool} (h : EqW g n x y b) : ∀ {u u' : V} {v v' : Value}, RV E.K H x u → RV E.K H y u' → RelV u v → RelV u' v' → PySem.W.EqTree X.prog X.w s n v v' b := by
  induction h with
  | @data n x y d e h1 h2 p1 p2 hn =>
    intro u u' v v' r r' l l'
    obtain ⟨as, q1⟩ := Dp.reads I d u v (by rw [hK]; exact dp_of hg h1 r) l
    obtain ⟨bs, q2⟩ := Dp.reads I e u' v' (by rw [hK]; exact dp_of hg h2 r') l'
    exact .leaf fun A hu => PySem.SeqAt.eqAt_plain _ _ A s v v' as bs q1 q2 p1 p2 (by have := Nat.min_le_left d.depth e.depth; omega)
  | same =>
    intro u u' v v' r r' l l'
    rw [RV] at r r'
    subst r r'
    cases l; cases l'
    exact .same
  | @dicts n a b lk lk' ka kb e ne ha hb t ih =>
    intro u u' v v' r r' l l'
    rw [RV] at r r'
    subst r r'
    cases l; cases l'
    obtain ⟨la, hda, a1, a2⟩ := hg _ _ ha
    obtain ⟨lb, hdb, b1, b2⟩ := hg _ _ hb
    obtain ⟨_, ma, va, ra, da⟩ := dk_rd I.hok hda.rd
    obtain ⟨_, mb, vb, rb, db⟩ := dk_rd I.hok hdb.rd
    have A1 : DR E H ka va := dr_of ⟨a1, a2⟩ ra
    have B1 : DR E H kb vb := dr_of ⟨b1, b2⟩ rb
    rw [← dr_eq A1 B1]
    refine .dicts ne ma mb da db fun k v y hm hv => ?_
    obtain ⟨w, u, k1, k2, k3⟩ := A1.mem k v hm
    rcases B1.val k with ⟨e1, e2⟩ | ⟨w', u', v', e1, e2, e3, e4⟩
    · rw [hv] at e2; cases e2
    · rw [hv] at e2; cases e2
      exact ih k w w' k1 e1 k3 e4 k2 e3
  | @lists n a b xs ys e ne ha hb hl t ih =>
    intro u u' v v' r r' l l'
    rw [RV] at r r'
    subst r r'
    cases l; cases l'
    obtain ⟨va, f1, r1⟩ := hg _ _ ha
    obtain ⟨vb, f2, r2⟩ := hg _ _ hb
    obtain ⟨ia, la, pa, _⟩ := I.list (SqL.of f1)
    obtain ⟨ib, lb, pb, _⟩ := I.list (SqL.of f2)
    have hs : xs.length = ia.toArray.size := by rw [← r1.length, la.length]; simp
    have hs2 : ys.length = ib.toArray.size := by rw [← r2.length, lb.length]; simp
    rw [hs]
    refine .lists ne pa.isList pb.isList (by rw [← hs, ← hs2, hl]) fun j h1 h2 => ?_
    obtain ⟨x, y, u, u', e1, e2, k1, k2, k3, k4⟩ := two_at r1 la r2 lb h1 h2
    exact ih j x y e1 e2 k1 k2 k3 k4
theorem l_deq (hK : X.K = E.K) (hu : X.A.units + 70 < cLine) : OpR X (compareOp .Eq) (lift2 E (deqS false)) := by
  intro pins s σ H x y v u Q I rx ry ⟨a, b, g, q, ha, hb, hg, h, kq⟩
  unfold deqS at h
  split at h
  · rename_i p p'
    rw [RV] at ha hb; subst ha hb
    cases rx; cases ry
    split at h
    · rename_i lk ka lk' kb ea eb
      obtain ⟨n, e, hn, t, h⟩ := h
      obtain ⟨la, hda, a1, a2⟩ := hg _ _ ea
      obtain ⟨lb, hdb, b1, b2⟩ := hg _ _ eb
      obtain ⟨_, ma, va, ra, da⟩ := dk_rd I.hok hda.rd
      obtain ⟨_, mb, vb, rb, db⟩ := dk_rd I.hok hdb.rd
      have A1 : DR E H ka va := dr_of ⟨a1, a2⟩ ra
      have B1 : DR E H kb vb := dr_of ⟨b1, b2⟩ rb
      refine PySem.W.eq_dictsT (n := n) (e := e) ma mb da db (fun k v y hm hv => ?_) (by omega) ?_
      · obtain ⟨w, u, k1, k2, k3⟩ := A1.mem k v hm
        rcases B1.val k with ⟨e1, e2⟩ | ⟨w', u', v', e1, e2, e3, e4⟩
        · rw [hv] at e2; cases e2
        · rw [hv] at e2; cases e2
          exact tree_of I hK hg (t k w w' k1 e1) k3 e4 k2 e3
      · rw [dr_eq A1 B1]
        exact ⟨.bl _, H, I, rfl, kq _ g _ H hg rv_bl FK.refl (by simpa using h)⟩
    · rename_i xs ys ea eb
      obtain ⟨hl, n, e, hn, t, h⟩ := h
      obtain ⟨va, f1, r1⟩ := hg _ _ ea
      obtain ⟨vb, f2, r2⟩ := hg _ _ eb
      obtain ⟨ia, la, pa, _⟩ := I.list (SqL.of f1)
      obtain ⟨ib, lb, pb, _⟩ := I.list (SqL.of f2)
      have hs : xs.length = ia.toArray.size := by rw [← r1.length, la.length]; simp
      have hs2 : ys.length = ib.toArray.size := by rw [← r2.length, lb.length]; simp
      refine PySem.W.eq_listsT (n := n) (e := e) pa.isList pb.isList (by rw [← hs, ← hs2, hl]) (fun j h1 h2 => ?_) (by omega) ?_
      · obtain ⟨x, y, u, u', e1, e2, k1, k2, k3, k4⟩ := two_at r1 la r2 lb h1 h2
        exact tree_of I hK hg (t j x y e1 e2) k1 k2 k3 k4
      · rw [← hs]
        exact ⟨.bl _, H, I, rfl, kq _ g _ H hg rv_bl FK.refl (by simpa using h)⟩
    · exact h.elim
  · exact h.elim
theorem l_dne (hK : X.K = E.K) (hu : X.A.units + 70 < cLine) : OpR X (compareOp .NotEq) (lift2 E (deqS true)) := by
  intro pins s σ H x y v u Q I rx ry ⟨a, b, g, q, ha, hb, hg, h, kq⟩
  unfold deqS at h
  split at h
  · rename_i p p'
    rw [RV] at ha hb; subst ha hb
    cases rx; cases ry
    split at h
    · rename_i lk ka lk' kb ea eb
      obtain ⟨n, e, hn, t, h⟩ := h
      obtain ⟨la, hda, a1, a2⟩ := hg _ _ ea
      obtain ⟨lb, hdb, b1, b2⟩ := hg _ _ eb
      obtain ⟨_, ma, va, ra, da⟩ := dk_rd I.hok hda.rd
      obtain ⟨_, mb, vb, rb, db⟩ := dk_rd I.hok hdb.rd
      have A1 : DR E H ka va := dr_of ⟨a1, a2⟩ ra
      have B1 : DR E H kb vb := dr_of ⟨b1, b2⟩ rb
      refine PySem.W.ne_dictsT (n := n) (e := e) ma mb da db (fun k v y hm hv => ?_) (by omega) ?_
      · obtain ⟨w, u, k1, k2, k3⟩ := A1.mem k v hm
        rcases B1.val k with ⟨e1, e2⟩ | ⟨w', u', v', e1, e2, e3, e4⟩
        · rw [hv] at e2; cases e2
        · rw [hv] at e2; cases e2
          exact tree_of I hK hg (t k w w' k1 e1) k3 e4 k2 e3
      · rw [dr_eq A1 B1]
        exact ⟨.bl _, H, I, rfl, kq _ g _ H hg rv_bl FK.refl (by simpa using h)⟩
    · rename_i xs ys ea eb
      obtain ⟨hl, n, e, hn, t, h⟩ := h
      obtain ⟨va, f1, r1⟩ := hg _ _ ea
      obtain ⟨vb, f2, r2⟩ := hg _ _ eb
      obtain ⟨ia, la, pa, _⟩ := I.list (SqL.of f1)
      obtain ⟨ib, lb, pb, _⟩ := I.list (SqL.of f2)
      have hs : xs.length = ia.toArray.size := by rw [← r1.length, la.length]; simp
      have hs2 : ys.length = ib.toArray.size := by rw [← r2.length, lb.length]; simp
      refine PySem.W.ne_listsT (n := n) (e := e) pa.isList pb.isList (by rw [← hs, ← hs2, hl]) (fun j h1 h2 => ?_) (by omega) ?_
      · obtain ⟨x, y, u, u', e1, e2, k1, k2, k3, k4⟩ := two_at r1 la r2 lb h1 h2
        exact tree_of I hK hg (t j x y e1 e2) k1 k2 k3 k4
      · rw [← hs]
        exact ⟨.bl _, H, I, rfl, kq _ g _ H hg rv_bl FK.refl (by simpa using h)⟩
    · exact h.elim
  · exact h.elim
end
end L3
set_option maxRecDepth 100000
set_option maxHeartbeats 8000000
namespace L3
open PySem PySem.Spec L2
theorem prim_ty : ∀ p : Pr, (prOf p).2 = true → ∃ T, bootBuiltins (prOf p).1 = some (.type T) ∧ (T, p) ∈ [("str", Pr.str), ("int", .int), ("list", .list), ("dict", .dict)] := by
  intro p h
  cases p <;> first | (simp [prOf] at h; done) | skip
  · exact ⟨"str", by decide +kernel, by decide⟩
  · exact ⟨"int", by decide +kernel, by decide⟩
  · exact ⟨"list", by decide +kernel, by decide⟩
  · exact ⟨"dict", by decide +kernel, by decide⟩
theorem prim_bi : ∀ p : Pr, (prOf p).2 = false → ∃ T, bootBuiltins (prOf p).1 = some (.builtin T) ∧ (T, p) ∈ [("len", Pr.len), ("abs", .abs), ("max", .max), ("min", .min), ("sum", .sum), ("all", .all), ("any", .any), ("divmod", .divmod), ("sorted", .sorted)] := by
  intro p h
  cases p <;> first | (simp [prOf] at h; done) | skip
  · exact ⟨"len", by decide +kernel, by decide⟩
  · exact ⟨"abs", by decide +kernel, by decide⟩
  · exact ⟨"max", by decide +kernel, by decide⟩
  · exact ⟨"min", by decide +kernel, by decide⟩
  · exact ⟨"sum", by decide +kernel, by decide⟩
  · exact ⟨"all", by decide +kernel, by decide⟩
  · exact ⟨"any", by decide +kernel, by decide⟩
  · exact ⟨"divmod", by decide +kernel, by decide⟩
  · exact ⟨"sorted", by decide +kernel, by decide⟩
theorem prim_in : ∀ p : Pr, (prOf p).1 ∈ blts ∧ (prOf p).1 ≠ "__name__" := by intro p; cases p <;> exact ⟨by decide +kernel, by decide +kernel⟩
section
variable {X : Cx} {E : Env3} {w : WX} {CF : CF3} {gl : Gs} {ck : Ck}
theorem pr_bi (ok : CkOk ck X E w CF gl) {p : Pr} (hh : ck.hot = false ∨ hotPr p = true) {T : String} (h : (T, p) ∈ [("len", Pr.len), ("abs", .abs), ("max", .max), ("min", .min), ("sum", .sum), ("all", .all), ("any", .any), ("divmod", .divmod), ("sorted", .sorted)]) : CallR X (.builtin T) (liftL E (prS p)) := by
  simp only [List.mem_cons, Prod.mk.injEq, List.not_mem_nil, or_false] at h
  rcases h with ⟨rfl, rfl⟩ | ⟨rfl, rfl⟩ | ⟨rfl, rfl⟩ | ⟨rfl, rfl⟩ | ⟨rfl, rfl⟩ | ⟨rfl, rfl⟩ | ⟨rfl, rfl⟩ | ⟨rfl, rfl⟩ | ⟨rfl, rfl⟩
  · exact l_len ok.hK
  · exact l_abs
  · exact l_max ok.hK (ok.calm (hh.resolve_right (by decide)))
  · exact l_min ok.hK (ok.calm (hh.resolve_right (by decide))) (by have := ok.hu; omega)
  · exact l_sum ok.hK (ok.calm (hh.resolve_right (by decide)))
  · exact l_all ok.hK (ok.calm (hh.resolve_right (by decide)))
  · exact l_any ok.hK (ok.calm (hh.resolve_right (by decide)))
  · exact l_divmod
  · exact l_sorted ok.hK (ok.calm (hh.resolve_right (by decide))) (by have := ok.hu; omega)
theorem pr_ty (ok : CkOk ck X E w CF gl) {p : Pr} (hh : ck.hot = false ∨ hotPr p = true) {T : String} (h : (T, p) ∈ [("str", Pr.str), ("int", .int), ("list", .list), ("dict", .dict)]) : CallR X (.type T) (liftL E (prS p)) := by
  simp only [List.mem_cons, Prod.mk.injEq, List.not_mem_nil, or_false] at h
  rcases h with ⟨rfl, rfl⟩ | ⟨rfl, rfl⟩ | ⟨rfl, rfl⟩ | ⟨rfl, rfl⟩
  · exact l_str
  · exact l_int
  · exact l_list ok.hK (ok.calm (hh.resolve_right (by decide)))
  · exact l_dict
theorem bo_ok (ok : CkOk ck X E w CF gl) (o : Bo) : OpR X (binaryOp (boOf o)) (lift2 E (boS o)) := by
  cases o
  · exact l_add ok.hK
  · exact l_sub
  · exact l_mul
  · exact l_fdiv
  · exact l_mod
  · exact l_pow
theorem co_ok (ok : CkOk ck X E w CF gl) (o : Co) : OpR X (compareOp (coOf o)) (lift2 E (coS o)) := by
  have := ok.hu
  cases o
  · exact l_eq ok.hK (by omega)
  · exact l_ne ok.hK (by omega)
  · exact l_lt ok.hK (by omega)
  · exact l_le ok.hK (by omega)
  · exact l_gt ok.hK (by omega)
  · exact l_ge ok.hK (by omega)
  · exact l_is
  · exact l_isnot
  · exact l_in ok.hK (by omega)
  · exact l_notin ok.hK (by omega)
  · exact l_deq ok.hK (by omega)
  · exact l_dne ok.hK (by omega)
theorem s_meth (ok : CkOk ck X E w CF gl) (m : Mt) {l : Expr} {q p : Pos} {vs : List Expr} {to : TE3} {ta : TA3} (hb : plainBase l = true) (hq : (q.endLine == p.line) = true) (hl : vs.length < 20)
    (ho : PE X l (liftE E w to)) (ha : PA X vs (liftA E w ta)) (hp : ∀ v ∈ vs, plainE v = true) (hz : vs = [] → ta = aNil) :
    PE X (.Call (.Attribute l (mtOf m) q) vs [] p) (liftE E w (eM (mtS m) (mtT m) to ta)) := by
  cases vs with
  | nil =>
    have e := hz rfl
    subst e
    cases m
    · exact peI (pe_bm0 PySem.F.plainAttrs_list PySem.F.slot_list_append PySem.F.type_list_append l_append ho (base_plain hb) hq) fun _ _ _ => l_meth0 ty_lst
    · exact peI (pe_bm0 PySem.F.plainAttrs_list PySem.F.slot_list_extend PySem.F.type_list_extend l_extend ho (base_plain hb) hq) fun _ _ _ => l_meth0 ty_lst
    · exact peI (pe_bm0 PySem.F.plainAttrs_list PySem.F.slot_list_pop PySem.F.type_list_pop l_pop ho (base_plain hb) hq) fun _ _ _ => l_meth0 ty_lst
    · exact peI (pe_bm0 PySem.F.plainAttrs_str PySem.F.slot_str_join PySem.F.type_str_join (l_join ok.hK) ho (base_plain hb) hq) fun _ _ _ => l_meth0 ty_str
    · exact peI (pe_bm0 PySem.F.plainAttrs_str PySem.F.slot_str_split PySem.F.type_str_split l_split ho (base_plain hb) hq) fun _ _ _ => l_meth0 ty_str
    · exact peI (pe_bm0 PySem.F.plainAttrs_str PySem.F.slot_str_partition PySem.F.type_str_partition l_partition ho (base_plain hb) hq) fun _ _ _ => l_meth0 ty_str
    · exact peI (pe_bm0 PySem.F.plainAttrs_list PySem.F.slot_list_index PySem.F.type_list_index l_index ho (base_plain hb) hq) fun _ _ _ => l_meth0 ty_lst
    · exact peI (pe_bm0 PySem.F.plainAttrs_list PySem.F.slot_list_remove PySem.F.type_list_remove (l_remove ok.hK (by have := ok.hu; omega)) ho (base_plain hb) hq) fun _ _ _ => l_meth0 ty_lst
  | cons v vs =>
    have hs := star_plain (env := X.env) (es := vs) (hp v List.mem_cons_self)
    have hpl := star_any (env := X.env) (pos := p) fun u hu => hp u (List.mem_cons_of_mem v hu)
    have hfew : ((backTo p (starEach (v :: vs) X.env)).all (fun x => !x.1) && (backToKw p (keywordEach [] X.env)).all (fun x => x.1.isSome) && decide ((v :: vs).length + ([] : List Keyword).length + (if ([] : List Keyword).isEmpty then 0 else 1) < 30)) = true := by
      rw [star_all hp]
      simp at hl
      simp [keywordEach, backToKw]
      omega
    cases m
    · exact peI (pe_bm PySem.F.plainAttrs_list PySem.F.slot_list_append PySem.F.type_list_append l_append ho ha (base_plain hb) hfew hq hs hpl) fun _ _ _ => l_meth ty_lst
    · exact peI (pe_bm PySem.F.plainAttrs_list PySem.F.slot_list_extend PySem.F.type_list_extend l_extend ho ha (base_plain hb) hfew hq hs hpl) fun _ _ _ => l_meth ty_lst
    · exact peI (pe_bm PySem.F.plainAttrs_list PySem.F.slot_list_pop PySem.F.type_list_pop l_pop ho ha (base_plain hb) hfew hq hs hpl) fun _ _ _ => l_meth ty_lst
    · exact peI (pe_bm PySem.F.plainAttrs_str PySem.F.slot_str_join PySem.F.type_str_join (l_join ok.hK) ho ha (base_plain hb) hfew hq hs hpl) fun _ _ _ => l_meth ty_str
    · exact peI (pe_bm PySem.F.plainAttrs_str PySem.F.slot_str_split PySem.F.type_str_split l_split ho ha (base_plain hb) hfew hq hs hpl) fun _ _ _ => l_meth ty_str
    · exact peI (pe_bm PySem.F.plainAttrs_str PySem.F.slot_str_partition PySem.F.type_str_partition l_partition ho ha (base_plain hb) hfew hq hs hpl) fun _ _ _ => l_meth ty_str
    · exact peI (pe_bm PySem.F.plainAttrs_list PySem.F.slot_list_index PySem.F.type_list_index l_index ho ha (base_plain hb) hfew hq hs hpl) fun _ _ _ => l_meth ty_lst
    · exact peI (pe_bm PySem.F.plainAttrs_list PySem.F.slot_list_remove PySem.F.type_list_remove (l_remove ok.hK (by have := ok.hu; omega)) ho ha (base_plain hb) hfew hq hs hpl) fun _ _ _ => l_meth ty_lst
theorem m1_of {l v : Expr} {m : Str} {q p : Pos} (X : Cx) (hb : plainBase l = true) (hq : (q.endLine == p.line) = true) (hp : plainE v = true) : M1 X l m q v p := by
  have h1 : starEach [v] X.env = [(false, eval v X.env)] := star_plain hp
  exact ⟨base_plain hb, by rw [h1]; rfl, hq, by rw [h1]; rfl⟩
theorem m2_of {l v u : Expr} {m : Str} {q p : Pos} (X : Cx) (hb : plainBase l = true) (hq : (q.endLine == p.line) = true) (hp : plainE v = true) (hp2 : plainE u = true) : M2 X l m q v u p := by
  have h1 : starEach [v, u] X.env = [(false, eval v X.env), (false, eval u X.env)] := by rw [star_plain hp, star_plain hp2]; rfl
  exact ⟨base_plain hb, by rw [h1]; rfl, hq, by rw [h1]; rfl⟩
theorem s_call {c : List W → G → XK3 → VK3 → Prop} {y : Str} {q p : Pos} {vs : List Expr} {ta : TA3} (ok : CkOk ck X E w CF gl) (hg : isGl ck y = true) (hc : CallOk X E c y)
    (ha : PA X vs (liftA E w ta)) (hp : ∀ v ∈ vs, plainE v = true) (hz : vs = [] → ta = aNil) :
    PE X (.Call (.Name y q) vs [] p) (liftE E w (fun x s g k => ta x s g fun ws g1 => c ws g1 x k)) := by
  obtain ⟨f, hm, hk, D⟩ := hc.ex
  obtain ⟨fd, ps, k, F, hr, hb⟩ := D.ex
  obtain ⟨g1, g2⟩ := ok.gl' hg
  have run : ∀ (pins : List (Addr × Obj)) (s : Shared) (σ : L2.St) (H : Hp) (Q : VK) (us : List Value) (vs' : List V), Inv X pins σ H s → Vals vs' us →
      (∃ ws g q x, RVs E.K H ws vs' ∧ GR E g H ∧ c ws g x q ∧ KQ E g H q Q ∧ KX E g H x (fun cls d H' => w cls d σ H')) → wpAny (model X.prog X.w) X.A (PySem.call (.ref f) us) (EP X pins σ Q) X.xe s := by
    intro pins s σ H Q us vs' I r ⟨ws, g, q, x, r3, hg3, h, kq, kx⟩
    obtain ⟨ds, dvs, dws, hd, hB, hdw, hlen, h2⟩ := hb ws g x q h
    have r4 := r3.append (hdw H)
    refine run_fnSD (sp := spF E c ps.length) (E := WE w) F (hr.mono (by omega)) hB hd (passAt ok.tk σ) I r ⟨?_, ws ++ dws, g, q, x, r4, hg3, h2, kq, kx⟩
    rw [r4.length]; exact hlen
  cases vs with
  | nil =>
    have e := hz rfl
    subst e
    refine ⟨fun pins s σ H Q I h => wpAny_Call_Name_kw (ld_glob I g1 hm (PySem.W.callWith_K0 I.kIn hk ?_) g2)⟩
    have h' := l_call (n := 0) (dvs := []) (ws := []) σ H Q h
    exact run pins s σ H Q [] [] I .nil (l_nil h')
  | cons v vs =>
    refine ⟨fun pins s σ H Q I h => wpAny_Call_Name_kw (ld_glob I g1 hm ?_ g2)⟩
    have h' := l_call (n := 0) (dvs := []) (ws := []) σ H Q h
    refine PySem.W.callWith_K (h₀ := X.base) I.ok.mod.kin hk (thn (ha.run p pins s σ H _ I h') fun us s1 hu => ?_) (star_plain (hp v List.mem_cons_self)) (star_any fun u hu => hp u (List.mem_cons_of_mem v hu))
    obtain ⟨vs', H1, I1, r, q1⟩ := hu
    exact ⟨I1.kIn, run pins s1 σ H1 Q us vs' I1 r q1⟩
end
end L3
set_option maxRecDepth 100000
set_option maxHeartbeats 8000000
namespace L2
open PySem PySem.Spec PyProof.Rows
section
variable {X : Cx} {CX : CXT} {k : Nat} {f C : Addr} {fd : FuncData} {ps : List Str} {sp : Sp} {dvs : List V} {ds : List Value}
theorem run_makeA {E : XK} {pins : List (Addr × Obj)} {σ : St} {H : Hp} {s : Shared} {Q : VK} {us : List Value} {vs : List V} (M : Mk X.K C f) (F : FnOk X.prog X.w X.K X.mg X.base CX k f fd ps sp) (hr : Room (k + 1) X.A) (hb : Binds X.K fd ps ds) (hd : Vals dvs ds)
    (hx : PassesAt CX X σ E) (I : Inv X pins σ H s) (r : Vals vs us)
    (hq : sp (.ref (s.heap.objs.size + 1) :: (vs ++ dvs)) (upd (upd H s.heap.objs.size (.own (s.heap.objs.size + 1))) (s.heap.objs.size + 1) (.ins C s.heap.objs.size [])) (fun v H2 => v = .non ∧ Q (.ref (s.heap.objs.size + 1)) H2) E) :
    wpAny (model X.prog X.w) X.A (call (.ref C) us) (EP X pins σ Q) X.xe s := by
  have I2 := Inv.made (C := C) I
  have r2 : Vals (V.ref (s.heap.objs.size + 1) :: (vs ++ dvs)) (Value.ref (s.heap.objs.size + 1) :: (us ++ ds)) := .cons rfl (r.append hd)
  have hl : (Value.ref (s.heap.objs.size + 1) :: us ++ ds).length = ps.length := by
    have e := r2.length
    rw [F.len _ _ _ _ hq] at e
    exact e.symm
  refine wpAny_call (make_map (f := f) I.kIn M.makes M.init (beq_iff_eq.mp M.fn) (codeAny_mono (F.run _ X.stack _ _ ⟨Value.ref (s.heap.objs.size + 1) :: us, []⟩ (Value.ref (s.heap.objs.size + 1) :: (us ++ ds)) _ _ E (hr.make C us [])
    (I2.env0.make C us []) (hb _ (Value.ref (s.heap.objs.size + 1) :: us) I2.kIn hl) r2 hq) fun r s' hq' => ?_))
  cases r with
  | error e => exact hx pins _ _ e s' I2 hq'
  | ok fl =>
    cases fl with
    | ret u =>
      obtain ⟨v, H', I3, rv, ev, q3⟩ := I2.after hq'
      subst ev
      exact ⟨rv, ⟨V.ref (s.heap.objs.size + 1), H', I3, rfl, q3⟩⟩
    | next => exact False.elim hq'
    | brk => exact False.elim hq'
    | cont => exact False.elim hq'
theorem ev_meth3 {env : Env} {o : Expr} {m : Str} {apos pos : Pos} {args : List Expr} (hbase : attributeBase o m env (eval o env) = eval o env)
    (hform : methodCallForm (args.length + ([] : List Keyword).length) (backTo pos (starEach args env)) (backToKw pos (keywordEach [] env)) = true) (hline : (apos.endLine == pos.line) = true) :
    eval (.Call (.Attribute o m apos) args [] pos) env = (do
      let ov ← eval o env
      standAt apos.atName
      let (f, first) ← holding [ov] (getMethod ov m (do return (← importBound o env).getD true))
      callWith pos f first (backTo pos (starEach args env)) (backToKw pos (keywordEach [] env))) := by
  have hpos : methodCallPos true o env apos pos = pure pos := by unfold methodCallPos; simp [hline]
  rw [arm_eval_Call, hbase]
  unfold methodCall
  rw [hform, hpos]
  unfold calleeOf
  rfl
end
end L2
namespace L3
open PySem PySem.Spec L2
section
variable {X : Cx} {E : Env3} {w : WX} {CF : CF3} {gl : Gs} {ck : Ck}
theorem map_lookup {f : Str} : ∀ {fs : List (Str × W)} {l : List (Str × V)} {K : PySem.W.Frag} {H : Hp} {v : W}, fs.map (·.1) = l.map (·.1) → RVs K H (fs.map (·.2)) (l.map (·.2)) → fs.lookup f = some v → ∃ u, l.lookup f = some u ∧ RV K H v u
  | [], _, _, _, _, _, _, e => by cases e
  | (a, x) :: fs, l, K, H, v, e1, e2, e => by
    cases l with
    | nil => simp at e1
    | cons q l =>
      obtain ⟨b, y⟩ := q
      simp only [List.map_cons, List.cons.injEq] at e1
      obtain ⟨rfl, e1⟩ := e1
      obtain ⟨y', r', ee, h1, h2⟩ := RVs.cons_inv e2
      simp only [List.map_cons, List.cons.injEq] at ee
      obtain ⟨rfl, rfl⟩ := ee
      rw [List.lookup_cons] at e ⊢
      cases hb : (f == a) with
      | true => rw [hb] at e; cases e; exact ⟨y, rfl, h1⟩
      | false => rw [hb] at e; exact map_lookup e1 h2 e
theorem putG_put {f : Str} {v : W} {u : V} {K : PySem.W.Frag} {H : Hp} (r : RV K H v u) : ∀ {fs : List (Str × W)} {l : List (Str × V)}, fs.map (·.1) = l.map (·.1) → RVs K H (fs.map (·.2)) (l.map (·.2)) →
    (putG f v fs).map (·.1) = (putF f u l).map (·.1) ∧ RVs K H ((putG f v fs).map (·.2)) ((putF f u l).map (·.2))
  | [], l, e1, e2 => by
    cases l with
    | nil => exact ⟨rfl, .cons r .nil⟩
    | cons _ _ => simp at e1
  | (a, x) :: fs, l, e1, e2 => by
    cases l with
    | nil => simp at e1
    | cons q l =>
      obtain ⟨b, y⟩ := q
      simp only [List.map_cons, List.cons.injEq] at e1
      obtain ⟨rfl, e1⟩ := e1
      obtain ⟨y', r', ee, h1, h2⟩ := RVs.cons_inv e2
      simp only [List.map_cons, List.cons.injEq] at ee
      obtain ⟨rfl, rfl⟩ := ee
      unfold putG putF
      by_cases z : a = f
      · rw [if_pos z, if_pos z]; exact ⟨by simp [e1], .cons r h2⟩
      · rw [if_neg z, if_neg z]
        obtain ⟨k1, k2⟩ := putG_put r e1 h2
        exact ⟨by simp [k1], .cons h1 k2⟩
theorem putG_mem {f : Str} {v : W} {fl : List Str} (hf : f ∈ fl) : ∀ {fs : List (Str × W)}, (∀ x ∈ fs.map (·.1), x ∈ fl) → ∀ x ∈ (putG f v fs).map (·.1), x ∈ fl
  | [], _, x, hx => by simp [putG] at hx; subst hx; exact hf
  | (a, y) :: fs, h, x, hx => by
    unfold putG at hx
    split at hx
    · exact h x (by simpa using hx)
    · simp only [List.map_cons, List.mem_cons] at hx
      rcases hx with rfl | hx
      · exact h _ (by simp)
      · exact putG_mem hf (fun z hz => h z (by simp only [List.map_cons, List.mem_cons]; exact .inr hz)) x hx
theorem lookup_none {α : Type} {f : Str} : ∀ {fs : List (Str × α)}, f ∉ fs.map (·.1) → fs.lookup f = none
  | [], _ => rfl
  | (a, x) :: fs, h => by
    simp only [List.map_cons, List.mem_cons, not_or] at h
    rw [List.lookup_cons, show (f == a) = false by simpa using h.1]
    exact lookup_none h.2
theorem s_attr (ok : CkOk ck X E w CF gl) {l : Expr} {f : Str} {p : Pos} {to : TE3} (hb : plainBase l = true) (hf : f ∈ ck.fl) (ho : PE X l (liftE E w to)) : PE X (.Attribute l f p) (liftE E w (fun x s g q => to x s g fun a g1 => attrS f a g1 q)) := by
  refine peI (pe_fld ho (base_plain hb)) fun σ H Q h => ?_
  obtain ⟨s, g, q, x, hs, hg, h, kq, kx⟩ := h
  refine ⟨s, g, _, x, hs, hg, h, fun a g1 v H1 hg1 ra f1 h1 => ?_, kx⟩
  change attrS f a g1 q at h1
  unfold attrS at h1
  split at h1
  · rename_i p
    rw [RV] at ra; subst ra
    split at h1
    · rename_i c fs eg
      obtain ⟨o1, o2, dx, l, e, q1, q2⟩ := hg1 _ _ eg
      split at h1
      · rename_i v ev
        obtain ⟨u, eu, ru⟩ := map_lookup q1 q2 ev
        refine ⟨p, _, dx, l, u, rfl, e, by have := ok.cl.cls c o1; exact this, ok.cl.noat c o1 f (by rw [ok.cl.fl]; exact hf), eu, kq _ g1 _ H1 hg1 ru f1 h1⟩
      · exact h1.elim
    · exact h1.elim
  · exact h1.elim
theorem s_seta (ok : CkOk ck X E w CF gl) {l v : Expr} {f : Str} {p p' : Pos} {to te : TE3} (hf : f ∈ ck.fl) (hs : swapsWith v (some (.Attribute l f p')) p.line X.env = pure false) (ho : PE X l (liftE E w to)) (he : PE X v (liftE E w te)) :
    PS X (.Assign [.Attribute l f p'] v p) (liftS E w (fun D s g => te (D.xk s) s g fun v g1 => to (D.xk s) s g1 fun a g2 => setaS f a v g2 fun g3 => D.nx s g3)) := by
  refine psI (ps_fld ho he hs) fun D σ H h => ?_
  obtain ⟨s, g, d, hs, hg, h, kd⟩ := h
  have kx := kd.xk hs hg
  refine ⟨s, g, _, _, hs, hg, h, fun c g1 u H1 hg1 rc f1 h1 => ?_, kx⟩
  have t1 := f1.tk hg
  refine ⟨s, g1, _, _, hs.keep t1, hg1, h1, fun a g2 u2 H2 hg2 ra f2 h2 => ?_, kx.at f1⟩
  have t2 := f2.tk hg1
  change setaS f a c g2 _ at h2
  unfold setaS at h2
  split at h2
  · rename_i p
    rw [RV] at ra; subst ra
    split at h2
    · rename_i cn fs eg
      obtain ⟨hl, h2⟩ := h2
      obtain ⟨o1, o2, dx, l, e, q1, q2⟩ := hg2 _ _ eg
      have t : TK H2 (upd H2 p (.ins (E.ocl cn) dx (putF f u l))) := hg2.tk eg
      obtain ⟨k1, k2⟩ := putG_put (f := f) ((rc.keep t2).keep t) q1 (q2.keep t)
      have hll : l.length < 1000 := by have := congrArg List.length q1; simp at this; omega
      refine ⟨p, _, dx, l, rfl, e, ok.cl.cls cn o1, ok.cl.noat cn o1 f (by rw [ok.cl.fl]; exact hf), hll, ?_⟩
      exact kd.nx s _ σ _ (((hs.keep t1).keep t2).keep t) (hg2.wr (o' := .ins cn (putG f c fs)) eg ⟨o1, putG_mem (by rw [ok.cl.fl]; exact hf) o2, dx, _, upd_same, k1, k2⟩) ((f1.trans f2).trans (FK.wr eg e (fun _ _ z => nomatch z))) h2
    · exact h2.elim
  · exact h2.elim
theorem few3 {vs : List Expr} {p : Pos} {env : Env} (hl : vs.length < 20) (hp : ∀ v ∈ vs, plainE v = true) : methodCallForm (vs.length + ([] : List Keyword).length) (backTo p (starEach vs env)) (backToKw p (keywordEach [] env)) = true := by
  unfold methodCallForm
  rw [star_all hp]
  simp [keywordEach, backToKw]
  omega
theorem s_mcall (ok : CkOk ck X E w CF gl) (hh : ck.hot = false) {l : Expr} {m : Str} {q p : Pos} {vs : List Expr} {to : TE3} {ta : TA3} (hb : plainBase l = true) (hq : (q.endLine == p.line) = true) (hm : m ∉ ck.fl) (hl : vs.length < 20)
    (ho : PE X l (liftE E w to)) (ha : PA X vs (liftA E w ta)) (hp : ∀ v ∈ vs, plainE v = true) (hz : vs = [] → ta = aNil) :
    PE X (.Call (.Attribute l m q) vs [] p) (liftE E w (fun x s g k => to x s g fun a g1 => mcS gl.ocs m a g1 fun f => ta x s g1 fun ws g2 => CF f (a :: ws) g2 x k)) := by
  refine ⟨fun pins s σ H Q I h => ?_⟩
  obtain ⟨s3, g, k, x, hs, hg, h, kq, kx⟩ := h
  refine PySem.W.methodCall_KW (thn (ho.run pins s σ H _ I ⟨s3, g, _, x, hs, hg, h, (fun a g1 v H1 hg1 ra f1 h1 => show (∃ a g1, RV E.K H1 a v ∧ GR E g1 H1 ∧ FK g H g1 H1 ∧ mcS gl.ocs m a g1 fun f => ta x s3 g1 fun ws g2 => CF f (a :: ws) g2 x k) from ⟨a, g1, ra, hg1, f1, h1⟩), kx⟩) fun u s1 ⟨v, H1, I1, rv, a, g1, ra, hg1, f1, h1⟩ => ?_) (ev_meth3 (base_plain hb) (few3 hl hp) hq)
  unfold mcS at h1
  split at h1
  · rename_i pa
    rw [RV] at ra; subst ra
    obtain rfl : u = Value.ref pa := rv
    split at h1
    · rename_i c fs eg
      obtain ⟨f, ef, h1⟩ := h1
      obtain ⟨o1, o2, dx, lv, e, q1, q2⟩ := hg1 _ _ eg
      unfold mnum at ef
      rw [Option.bind_eq_some_iff] at ef
      obtain ⟨oc, eoc, ef⟩ := ef
      rw [ok.goc] at eoc
      obtain ⟨fa, Mt, D⟩ := (ok.ob hh).meth c oc m f eoc ef
      obtain ⟨fd, ps, lvl, F, hr, hbd⟩ := D.ex
      have hno : lv.lookup m = none := lookup_none fun z => hm (by rw [← ok.cl.fl]; exact o2 m (by rw [q1]; exact z))
      refine getmeth_ok I1 e (ok.cl.cls c o1) Mt hno ?_
      have kq1 := kq.at f1
      have kx1 := kx.at f1
      have hs1 := hs.keep (f1.tk hg)
      have run : ∀ (s : Shared) (H2 : Hp) (us : List Value) (vs' : List V), Inv X pins σ H2 s → Vals vs' us → (∃ ws g2, RVs E.K H2 ws vs' ∧ GR E g2 H2 ∧ FK g1 H1 g2 H2 ∧ CF f (.ref pa :: ws) g2 x k) →
          wpAny (model X.prog X.w) X.A (PySem.call (.ref fa) (.ref pa :: us)) (EP X pins σ Q) X.xe s := by
        intro s H2 us vs' I2 r2 ⟨ws, g2, r3, hg2, f2, h2⟩
        obtain ⟨ds, dvs, dws, hd, hB, hdw, hlen, h3⟩ := hbd _ _ _ _ h2
        have r4 : RVs E.K H2 (.ref pa :: ws) (.ref pa :: vs') := .cons rv_ref r3
        have r5 := r4.append (hdw H2)
        refine run_fnSD (us := .ref pa :: us) (vs := .ref pa :: vs') (sp := spF E (CF f) ps.length) (E := WE w) F (hr.mono (by omega)) hB hd (passAt ok.tk σ) I2 (.cons rfl r2) ⟨?_, _, g2, k, x, r5, hg2, h3, kq1.at f2, ?_⟩
        · rw [r5.length]; exact hlen
        · exact kx1.at f2
      cases vs with
      | nil =>
        have e := hz rfl
        subst e
        exact PySem.W.callWith_K0 (first := [.ref pa]) I1.kIn Mt.kp (run s1 H1 [] [] I1 .nil ⟨[], g1, .nil, hg1, FK.refl, h1⟩)
      | cons z vs =>
        refine PySem.W.callWith_K (first := [.ref pa]) (h₀ := X.base) I1.ok.mod.kin Mt.kp (thn (ha.run p pins s1 σ H1 _ I1 ⟨s3, g1, _, x, hs1, hg1, h1, (fun ws g2 us H2 hg2 r f2 h2 => show (∃ ws g2, RVs E.K H2 ws us ∧ GR E g2 H2 ∧ FK g1 H1 g2 H2 ∧ CF f (.ref pa :: ws) g2 x k) from ⟨ws, g2, r, hg2, f2, h2⟩), kx1⟩) fun us s2 hu => ?_) (star_plain (hp z List.mem_cons_self)) (star_any fun u hu => hp u (List.mem_cons_of_mem z hu))
        obtain ⟨vs', H2, I2, r, q1⟩ := hu
        exact ⟨I2.kIn, run s2 H2 us vs' I2 r q1⟩
    · exact h1.elim
  · exact h1.elim
theorem s_new (ok : CkOk ck X E w CF gl) (hh : ck.hot = false) {c f : Nat} {oc : OC3} {y : Str} {q p : Pos} {vs : List Expr} {ta : TA3} (hc : ck.ocs[c]? = some oc) (hn : oc.name = y) (hi : oc.init = f) (hgl : isGl ck y = true)
    (ha : PA X vs (liftA E w ta)) (hp : ∀ v ∈ vs, plainE v = true) (hz : vs = [] → ta = aNil) :
    PE X (.Call (.Name y q) vs [] p) (liftE E w (fun x s g k => ta x s g fun ws g1 => ∀ a, g1 a = none → CF f (.ref a :: ws) (gup g1 a (.ins c [])) x fun v g2 => v = .non ∧ k (.ref a) g2)) := by
  subst hn hi
  obtain ⟨fa, M, hm, D, _⟩ := (ok.ob hh).mkr c oc hc
  obtain ⟨fd, ps, lvl, F, hr, hbd⟩ := D.ex
  obtain ⟨g1, g2⟩ := ok.gl' hgl
  have hon : c < E.on := by rw [ok.cl.on]; exact (List.getElem?_eq_some_iff.mp hc).1
  have run : ∀ (pins : List (Addr × Obj)) (s : Shared) (σ : L2.St) (H : Hp) (Q : VK) (us : List Value) (vs' : List V), Inv X pins σ H s → Vals vs' us →
      (∃ ws g k x, RVs E.K H ws vs' ∧ GR E g H ∧ (∀ a, g a = none → CF oc.init (.ref a :: ws) (gup g a (.ins c [])) x fun v g2 => v = .non ∧ k (.ref a) g2) ∧ KQ E g H k Q ∧ KX E g H x (fun cls d H' => w cls d σ H')) →
      wpAny (model X.prog X.w) X.A (PySem.call (.ref (E.ocl c)) us) (EP X pins σ Q) X.xe s := by
    intro pins s σ H Q us vs' I r ⟨ws, g, k, x, r3, hg3, h, kq, kx⟩
    have n1 : H (s.heap.objs.size + 1) = none := I.hok.fresh (Nat.le_succ _)
    have n2 : H s.heap.objs.size = none := I.hok.fresh (Nat.le_refl _)
    have ne : s.heap.objs.size ≠ s.heap.objs.size + 1 := Nat.ne_of_lt (Nat.lt_succ_self _)
    have n3 : upd H s.heap.objs.size (.own (s.heap.objs.size + 1)) (s.heap.objs.size + 1) = none := by rw [upd_ne (Ne.symm ne)]; exact n1
    have h0 := h _ (hg3.free n1)
    obtain ⟨ds, dvs, dws, hd, hB, hdw, hlen, h2⟩ := hbd _ _ _ _ h0
    have hgA := hg3.new' (u := .own (s.heap.objs.size + 1)) n2
    have tA : TK H (upd H s.heap.objs.size (.own (s.heap.objs.size + 1))) := TK.new n2
    have hgB : GR E (gup g (s.heap.objs.size + 1) (.ins c [])) (upd (upd H s.heap.objs.size (.own (s.heap.objs.size + 1))) (s.heap.objs.size + 1) (.ins (E.ocl c) s.heap.objs.size [])) :=
      hgA.new (o := .ins c []) n3 ⟨hon, (fun f hf => nomatch hf), _, [], upd_same, rfl, .nil⟩
    have tB : TK (upd H s.heap.objs.size (.own (s.heap.objs.size + 1))) (upd (upd H s.heap.objs.size (.own (s.heap.objs.size + 1))) (s.heap.objs.size + 1) (.ins (E.ocl c) s.heap.objs.size [])) := TK.new n3
    have r4 : RVs E.K _ (.ref (s.heap.objs.size + 1) :: ws) (.ref (s.heap.objs.size + 1) :: vs') := .cons rv_ref ((r3.keep tA).keep tB)
    have r5 := r4.append (hdw _)
    have fN : FK g H (gup g (s.heap.objs.size + 1) (.ins c [])) (upd (upd H s.heap.objs.size (.own (s.heap.objs.size + 1))) (s.heap.objs.size + 1) (.ins (E.ocl c) s.heap.objs.size [])) := (FK.new' n2).trans (FK.new n3)
    refine run_makeA (sp := spF E (CF oc.init) ps.length) (E := WE w σ) M F hr hB hd (passAt ok.tk σ) I r ⟨?_, _, _, _, x, r5, hgB, h2, ?_, kx.at fN⟩
    · exact r5.length.trans hlen
    · rintro v g' u H' q1 q2 f3 ⟨rfl, q3⟩
      rw [RV] at q2
      exact ⟨q2, kq _ g' _ H' q1 rv_ref (fN.trans f3) q3⟩
  cases vs with
  | nil =>
    have e := hz rfl
    subst e
    refine ⟨fun pins s σ H Q I h => wpAny_Call_Name_kw (ld_glob I g1 hm (PySem.W.callWith_K0 I.kIn M.kp ?_) g2)⟩
    obtain ⟨s3, g, k, x, hs, hg, h, kq, kx⟩ := h
    exact run pins s σ H Q [] [] I .nil ⟨[], g, k, x, .nil, hg, h, kq, kx⟩
  | cons v vs =>
    refine ⟨fun pins s σ H Q I h => wpAny_Call_Name_kw (ld_glob I g1 hm ?_ g2)⟩
    obtain ⟨s3, g, k, x, hs, hg, h, kq, kx⟩ := h
    refine PySem.W.callWith_K (h₀ := X.base) I.ok.mod.kin M.kp (thn (ha.run p pins s σ H _ I ⟨s3, g, _, x, hs, hg, h, (fun ws g1 us H1 hg1 r f1 h1 => show (∃ ws g k x, RVs E.K H1 ws us ∧ GR E g H1 ∧ (∀ a, g a = none → CF oc.init (.ref a :: ws) (gup g a (.ins c [])) x fun v g2 => v = .non ∧ k (.ref a) g2) ∧ KQ E g H1 k Q ∧ KX E g H1 x (fun cls d H' => w cls d σ H')) from ⟨ws, g1, k, x, r, hg1, h1, kq.at f1, kx.at f1⟩), kx⟩) fun us s1 hu => ?_) (star_plain (hp v List.mem_cons_self)) (star_any fun u hu => hp u (List.mem_cons_of_mem v hu))
    obtain ⟨vs', H1, I1, r, q1⟩ := hu
    exact ⟨I1.kIn, run pins s1 σ H1 Q us vs' I1 r q1⟩
theorem l_fmt {te : TE3} {σ : L2.St} {H : Hp} {Q : VK} (h : liftE E w (fun x s g q => te x s g fun w g1 => fmtS w g1 q) σ H Q) : tFmt (liftE E w te) σ H Q := by
  obtain ⟨s, g, q, x, hs, hg, h, kq, kx⟩ := h
  refine ⟨s, g, _, x, hs, hg, h, fun a g1 v H1 hg1 ra f1 h1 => ?_, kx⟩
  change fmtS a g1 q at h1
  unfold fmtS at h1
  split at h1
  · rw [RV] at ra; subst ra
    exact .inl ⟨_, rfl, h1.1, kq _ g1 _ H1 hg1 rv_str f1 h1.2⟩
  · rw [RV] at ra; subst ra
    exact .inr ⟨_, rfl, h1.1, kq _ g1 _ H1 hg1 rv_str f1 h1.2⟩
  · exact h1.elim
theorem s_ccall (ok : CkOk ck X E w CF gl) (hh : ck.hot = false) {c : Nat} {oc : OC3} {q apos p : Pos} {v : Expr} {vs : List Expr} {ta : TA3} (hc : ck.ocs[c]? = some oc) (hgl : isGl ck oc.name = true) (hq : (apos.endLine == p.line) = true) (hl : (v :: vs).length < 20)
    (ha : PA X (v :: vs) (liftA E w ta)) (hp : ∀ u ∈ v :: vs, plainE u = true) :
    PE X (.Call (.Attribute (.Name oc.name q) "__init__" apos) (v :: vs) [] p) (liftE E w (fun x s g k => ta x s g fun ws g1 => CF oc.init ws g1 x k)) := by
  obtain ⟨fa, M, hm, D, R⟩ := (ok.ob hh).mkr c oc hc
  obtain ⟨fd, ps, lvl, F, hr, hbd⟩ := D.ex
  obtain ⟨g1, g2⟩ := ok.gl' hgl
  refine ⟨fun pins s σ H Q I h => ?_⟩
  obtain ⟨s3, g, k, x, hs, hg, h, kq, kx⟩ := h
  refine PySem.W.methodCall_KW (ld_glob I g1 hm ?_ g2) (ev_meth3 rfl (few3 hl hp) hq)
  refine PySem.W.method_cls I.kIn R.ga (PySem.W.cls_value I.kIn R.rd R.at_ rfl ?_)
  have I1 : Inv X pins σ H { s with toks := s.toks + 1 } := I.tok _
  refine PySem.W.callWith_K (first := []) (h₀ := X.base) I1.ok.mod.kin R.kp (thn (ha.run p pins _ σ H _ I1 ⟨s3, g, _, x, hs, hg, h, (fun ws g1 us H1 hg1 r f1 h1 => show (∃ ws g1, RVs E.K H1 ws us ∧ GR E g1 H1 ∧ FK g H g1 H1 ∧ CF oc.init ws g1 x k) from ⟨ws, g1, r, hg1, f1, h1⟩), kx⟩) fun us s1 hu => ?_) (star_plain (hp v List.mem_cons_self)) (star_any fun u hu => hp u (List.mem_cons_of_mem v hu))
  obtain ⟨vs', H1, I2, r, ws, gg, r3, hg3, f3, h3⟩ := hu
  refine ⟨I2.kIn, ?_⟩
  obtain ⟨ds, dvs, dws, hd, hB, hdw, hlen, h4⟩ := hbd _ _ _ _ h3
  have r5 := r3.append (hdw H1)
  refine run_fnSD (sp := spF E (CF oc.init) ps.length) (E := WE w) F (hr.mono (by omega)) hB hd (passAt ok.tk σ) I2 r ⟨?_, _, gg, k, x, r5, hg3, h4, kq.at f3, kx.at f3⟩
  exact r5.length.trans hlen
theorem s_isc (ok : CkOk ck X E w CF gl) {y : Str} {row : List Bool} {l : Expr} {q q' p : Pos} {ta : TE3} (h1 : isGl ck "isinstance" = true) (h2 : isGl ck y = true) (h3 : (y, row) ∈ ck.ics) (hp : plainE l = true) (ha : PE X l (liftE E w ta)) :
    PE X (.Call (.Name "isinstance" q) [l, .Name y q'] [] p) (liftE E w (fun x s g k => ta x s g fun a g1 => iscS row a g1 k)) := by
  obtain ⟨D, hD, facts⟩ := (ok.ics _ h3).ex
  obtain ⟨g1, g2⟩ := ok.gl' h1
  obtain ⟨g3, g4⟩ := ok.gl' h2
  have hA : PA X [l, .Name y q'] (tCons (liftE E w ta) (tCons (tC (.ref D)) tNil)) := pa_cons ha (pa_cons (pe_glob g3 hD rfl g4) pa_nil rfl) (star_plain hp)
  refine peI (pe_callB call_isi g1 (ok.blt "isinstance" (by decide +kernel)) (by decide +kernel) hA (by decide +kernel) g2 (star_plain hp) (by rfl)) fun σ H Q h => ?_
  obtain ⟨s, g, k, x, hs, hg, h, kq, kx⟩ := h
  refine ⟨s, g, _, x, hs, hg, h, fun a g1 v H1 hg1 ra f1 h1 => ?_, kx⟩
  change iscS row a g1 k at h1
  unfold iscS at h1
  split at h1
  · rename_i pa
    rw [RV] at ra; subst ra
    split at h1
    · rename_i c fs eg
      obtain ⟨b, eb, h1⟩ := h1
      obtain ⟨o1, o2, dx, lv, e, q1, q2⟩ := hg1 _ _ eg
      obtain ⟨k1, k2, k3, k4, k5⟩ := facts c b eb
      refine ⟨_, _, _, _, b, rfl, ?_, .base (.ins e (ok.cl.cls c o1) k2 k3 k4 k5), k1, kq _ g1 _ H1 hg1 rv_bl f1 h1⟩
      exact .own D
    · exact h1.elim
  · exact h1.elim
end
end L3
set_option maxRecDepth 100000
set_option maxHeartbeats 8000000
namespace L3
open PySem PySem.Spec L2
section
variable {X : Cx} {E : Env3} {w : WX} {CF : CF3} {gl : Gs} {ck : Ck}
theorem ty_rel {g : G} {H : Hp} {a : W} {v : V} {n : String} (hg : GR E g H) (r : RV E.K H a v) (h : tyNm g a = some n) : TyX E.K H v (.type n) := by
  cases a with
  | non => rw [RV] at r; subst r; cases h; exact .base .non
  | bl b => rw [RV] at r; subst r; cases h; exact .base (.bl b)
  | int b => rw [RV] at r; subst r; cases h; exact .base (.int b)
  | str b => rw [RV] at r; subst r; cases h; exact .base (.str b)
  | tup xs => obtain ⟨p, ys, rfl, ht, hr⟩ := rv_tup_inv r; cases h; exact .base (.tup ht)
  | scr xs =>
    obtain ⟨p, ys, rfl, ht, hr⟩ := rv_scr_inv r
    cases h
    rcases ht with ⟨o, ht⟩ | (ht | ⟨o, ht⟩) | ⟨o, its, m, e1, e2, _⟩
    · exact .base (.frz ht)
    · cases ht
    · cases ht
    · exact .kList e1 e2
  | lv xs =>
    obtain ⟨p, ys, rfl, ht, hr⟩ := rv_lv_inv r
    cases h
    rcases ht with ⟨o, ht⟩ | (ht | ⟨o, ht⟩) | ⟨o, its, m, e1, e2, _⟩
    · exact .base (.frz ht)
    · cases ht
    · cases ht
    · exact .kList e1 e2
  | ref p =>
    rw [RV] at r; subst r
    simp only [tyNm] at h
    split at h
    · rename_i xs e; cases h; obtain ⟨ys, f1, _⟩ := hg _ _ e; exact .base (.lst f1)
    · rename_i lk xs e
      cases h
      obtain ⟨l, hd, _⟩ := hg _ _ e
      cases lk with
      | false => exact .base (.dK hd)
      | true => obtain ⟨od, hd⟩ := hd; exact .fDict hd
    · rename_i xs e
      cases h
      obtain ⟨l, hd, _⟩ := hg _ _ e
      exact .base (.dT hd)
    · cases h
  | exc p c d => cases h
theorem boot_ty : ∀ T ∈ tySome, bootBuiltins (Str.ofString T) = some (.type T) ∧ Str.ofString T ∈ blts ∧ Str.ofString T ≠ "__name__" := by decide +kernel
theorem s_isi (ok : CkOk ck X E w CF gl) {T : String} {l : Expr} {q q' p : Pos} {ta : TE3} (g1 : isGl ck "isinstance" = true) (g2 : isGl ck (Str.ofString T) = true) (hT : T ∈ tySome) (hp : plainE l = true) (h : PE X l (liftE E w ta)) :
    PE X (.Call (.Name "isinstance" q) [l, .Name (Str.ofString T) q'] [] p) (liftE E w (e1 (isiS T) ta)) := by
  obtain ⟨b1, b2, b3⟩ := boot_ty T hT
  have hl := ok.gl' g1
  have ht := ok.gl' g2
  refine peI (pe_callB call_isi hl.1 (ok.blt _ (by decide +kernel)) (by decide +kernel) (pa_cons h (pa_cons (pe_bltn (v := .ty T) ht.1 (ok.blt _ b2) b1 rfl b3 ht.2) pa_nil) (star_plain hp)) (by decide +kernel) hl.2 (star_plain hp) rfl) fun σ H Q q => ?_
  obtain ⟨s, g, k, x, hs, hg, h, kq, kx⟩ := q
  refine ⟨s, g, _, x, hs, hg, h, fun a g1 v H1 hg1 ra f1 h1 => ?_, kx⟩
  obtain ⟨n, e1, h1⟩ := h1
  exact ⟨v, .ty T, _, _, isiB n T, rfl, .ty T, by rw [ok.hK]; exact ty_rel hg1 ra e1, kit_ty (kitB_all n (tyNm_in e1) T hT), kq _ g1 _ H1 hg1 rv_bl f1 h1⟩
theorem inst_at {pins : List (Addr × Obj)} {σ : L2.St} {H : Hp} {s : Shared} (I : Inv X pins σ H s) {a D : Addr} {oe : Obj} {d : Option Addr} (hm : (a, oe) ∈ X.pn) (hz : Zc (.ref D) d oe) (hf : ∃ vs, oe.data = .fields vs) (hd : ∀ dd, d = some dd → ∃ fs, H dd = some (.xd fs)) :
    ∃ od, PySem.W.InstAt s.heap a oe D od := by
  have hget := (I.pin (a, oe) (List.mem_append.mpr (.inl hm))).1
  obtain ⟨vs, hv⟩ := hf
  obtain ⟨oc, od, oda, osl⟩ := oe
  obtain ⟨z1, z2⟩ := hz
  dsimp only at z1 z2 hv
  subst z1 z2 hv
  cases od with
  | none => exact ⟨none, hget, rfl, rfl, trivial⟩
  | some dd =>
    obtain ⟨fs, q⟩ := hd dd rfl
    obtain ⟨mA, hns, _⟩ := (show ObjOk X.prog X.w H s.heap dd (.xd fs) from I.hok dd _ q)
    obtain ⟨o, ho, _⟩ := lookIn_ns hns
    exact ⟨some o, hget, rfl, rfl, ho⟩
def rIsX (K : PySem.W.Frag) (D a : Addr) (d : Option Addr) : List V → Hp → VK → Prop := fun xs H Q => ∃ (c : V) (cv : Value) (b : Bool), xs = [.ref a, c] ∧ (∀ u, RelV c u → u = cv) ∧ (∀ dd, d = some dd → ∃ fs, H dd = some (.xd fs)) ∧ PySem.W.kitOne K (.ref D) cv = some b ∧ Q (.bl b) H
theorem call_isX {a D : Addr} {oe : Obj} {d : Option Addr} (C : ExcC X.K D) (hm : (a, oe) ∈ X.pn) (hz : Zc (.ref D) d oe) (hf : ∃ vs, oe.data = .fields vs) : CallR X (.builtin "isinstance") (rIsX X.K D a d) := by
  intro pins s σ H xs us Q I r h
  obtain ⟨c, cv, b, rfl, hcv, hd, e, q⟩ := h
  cases r with
  | cons r1 r2 =>
    cases r2 with
    | cons r3 r4 =>
      cases r4
      cases r1
      have ec := hcv _ r3
      subst ec
      obtain ⟨od, J⟩ := inst_at I hm hz hf hd
      have hc : (PySem.W.clsIn X.K D).isSome = true := by
        have := C.hd
        unfold PySem.W.hasDictIn at this
        cases z : PySem.W.clsIn X.K D with
        | none => rw [z] at this; simp at this
        | some _ => rfl
      exact PySem.W.kia_one (PySem.W.kitx_exc hc C.hg C.hk C.hs C.ha C.hn C.ht C.hm) I.kIn J e (fun z => nomatch z) fun tk => ⟨.bl b, H, I.kept (t' := tk) fun _ _ z => z, rfl, q⟩
theorem s_isx (ok : CkOk ck X E w CF gl) {i : Nat} {n y : Str} {row : List Bool} {q q1 q' p : Pos} (g1 : isGl ck "isinstance" = true) (g2 : isGl ck y = true) (hv : isVar ck i n = true) (hc : (y, row) ∈ ck.cs) (hh : ck.hot = true) :
    PE X (.Call (.Name "isinstance" q) [.Name n q1, .Name y q'] [] p) (liftE E w (eIsx gl i row)) := by
  obtain ⟨a, oe, c, d, hm, es, hz, hf, hx⟩ := (ok.su hh).ex
  obtain ⟨v, cv, rv, uv, mv, facts⟩ := (ok.cs _ hc).ex
  have hl := ok.gl' g1
  have ht := ok.gl' g2
  obtain ⟨v1, v2, v3, v4⟩ := ok.var hv
  have pv : PE X (.Name n q1) (tVar i) := pe_var v1 v2 v3 v4
  have pc : PE X (.Name y q') (tC v) := by
    rcases mv with m | ⟨m, b, nn⟩
    · exact pe_glob ht.1 m rv ht.2
    · exact pe_bltn ht.1 m b rv nn ht.2
  refine ⟨fun pins st σ H Q I q => ?_⟩
  obtain ⟨s, g, k, x, hs, hg, ⟨a2, c2, d2, b2, e1, e2, ed, e3, h⟩, kq, kx⟩ := q
  rw [es] at e1
  cases e1
  obtain ⟨f1, _, f3, _⟩ := facts _ _ e3
  obtain ⟨u, hu, ru⟩ := hs.get e2
  rw [RV] at ru
  subst ru
  refine (pe_callB (call_isX f3 hm hz hf) hl.1 (ok.blt _ (by decide +kernel)) (by decide +kernel) (pa_cons pv (pa_cons pc pa_nil)) (by decide +kernel) hl.2).run pins st σ H Q I ?_
  exact ⟨_, hu, _, _, b2, rfl, uv, (fun dd e => by obtain ⟨fs, z⟩ := ed dd e; obtain ⟨l, z1, _⟩ := hg _ _ z; exact ⟨l, z1⟩), f1, kq _ g _ H hg rv_bl FK.refl h⟩
def rIsXs (K : PySem.W.Frag) (D a : Addr) (d : Option Addr) : List V → Hp → VK → Prop := fun xs H Q => ∃ (tp : Addr) (cs : List V) (us : List Value) (b : Bool), xs = [.ref a, .ref tp] ∧ H tp = some (.tup cs) ∧ (∀ ws, Vals cs ws → ws = us) ∧ (∀ dd, d = some dd → ∃ fs, H dd = some (.xd fs)) ∧ PySem.W.kitAny K (.ref D) us = some b ∧ Q (.bl b) H
theorem call_isXs {a D : Addr} {oe : Obj} {d : Option Addr} (C : ExcC X.K D) (hm : (a, oe) ∈ X.pn) (hz : Zc (.ref D) d oe) (hf : ∃ vs, oe.data = .fields vs) : CallR X (.builtin "isinstance") (rIsXs X.K D a d) := by
  intro pins s σ H xs us Q I r h
  obtain ⟨tp, cs, ws, b, rfl, hT, hw, hd, e, q⟩ := h
  cases r with
  | cons r1 r2 =>
    cases r2 with
    | cons r3 r4 =>
      cases r4
      cases r1
      cases r3
      obtain ⟨od, J⟩ := inst_at I hm hz hf hd
      have hc : (PySem.W.clsIn X.K D).isSome = true := by
        have := C.hd
        unfold PySem.W.hasDictIn at this
        cases z : PySem.W.clsIn X.K D with
        | none => rw [z] at this; simp at this
        | some _ => rfl
      obtain ⟨_, its, rv, o, h1, h2, n, h3⟩ := (show ObjOk X.prog X.w H s.heap tp (.tup cs) from I.hok tp _ hT)
      have e3 := hw _ rv
      subst e3
      obtain ⟨oc, od', dt, sl⟩ := o
      simp only at h2 h3
      subst h2 h3
      exact PySem.W.kia_tup (PySem.W.kitx_exc hc C.hg C.hk C.hs C.ha C.hn C.ht C.hm) I.kIn J h1 e (fun z => nomatch z) fun tk => ⟨.bl b, H, I.kept (t' := tk) fun _ _ z => z, rfl, q⟩
theorem pa_cls (ok : CkOk ck X E w CF gl) : ∀ (ys : List (Str × List Bool)) (es : List Expr), clsNs ck ys es = true → ∃ (vs : List V) (us : List Value), PA X es (fun _ H Q => Q vs H) ∧ vs.length = ys.length ∧ (∀ ws, Vals vs ws → ws = us) ∧ (∀ c b, anyR ys c = some b → PySem.W.kitAny X.K (.ref (E.cls c)) us = some b) ∧ (ys ≠ [] → ∀ c b, anyR ys c = some b → ExcC X.K (E.cls c))
  | [], [], _ => ⟨[], [], pa_nil, rfl, fun ws r => by cases r; rfl, fun c b h => by cases h; rfl, fun h => absurd rfl h⟩
  | [], _ :: _, h => by cases h
  | _ :: _, [], h => by cases h
  | (y, row) :: ys, e :: es, h => by
    cases e with
    | Name t q =>
      obtain ⟨h1, h⟩ := bool_and h
      obtain ⟨h2, h⟩ := bool_and h
      obtain ⟨h3, h4⟩ := bool_and h
      have h1 := of_decide_eq_true h1
      subst h1
      obtain ⟨vs, us, pa, hl, hu, hk, _⟩ := pa_cls ok ys es h4
      obtain ⟨v, cv, rv, uv, mv, facts⟩ := (ok.cs _ (of_decide_eq_true h3)).ex
      have ht := ok.gl' h2
      have pc : PE X (.Name t q) (tC v) := by
        rcases mv with m | ⟨m, b, nn⟩
        · exact pe_glob ht.1 m rv ht.2
        · exact pe_bltn ht.1 m b rv nn ht.2
      refine ⟨v :: vs, cv :: us, pa_cons pc pa, by simp [hl], fun ws r => ?_, fun c b e => ?_, fun _ c b e => ?_⟩
      · cases r with
        | cons r1 r2 => rw [uv _ r1, hu _ r2]
      · unfold anyR at e
        split at e
        · cases e
        · rename_i e1
          cases e
          exact kitAny_cons (facts _ _ e1).1 (fun z => nomatch z) fun _ => rfl
        · rename_i e1
          exact kitAny_cons (facts _ _ e1).1 (fun _ => hk _ _ e) fun z => nomatch z
      · unfold anyR at e
        split at e
        · cases e
        · rename_i e1
          exact (facts _ _ e1).2.2.1
        · rename_i e1
          exact (facts _ _ e1).2.2.1
    | _ => cases h
theorem s_isxs (ok : CkOk ck X E w CF gl) {i : Nat} {n : Str} {ys : List (Str × List Bool)} {es : List Expr} {k : Nat} {q q1 q2 p : Pos} (g1 : isGl ck "isinstance" = true) (hv : isVar ck i n = true) (hc : clsNs ck ys es = true) (hy : 0 < ys.length ∧ ys.length < 100) (hh : ck.hot = true) :
    PE X (.Call (.Name "isinstance" q) [.Name n q1, .Tuple es k q2] [] p) (liftE E w (eIsxs gl i ys)) := by
  obtain ⟨a, oe, c, d, hm, es', hz, hf, hx⟩ := (ok.su hh).ex
  obtain ⟨vs, us, pa, hl, hu, hk, hX⟩ := pa_cls ok ys es hc
  have hl' := ok.gl' g1
  obtain ⟨v1, v2, v3, v4⟩ := ok.var hv
  have pv : PE X (.Name n q1) (tVar i) := pe_var v1 v2 v3 v4
  refine ⟨fun pins st σ H Q I q => ?_⟩
  obtain ⟨s, g, k, x, hs, hg, ⟨a2, c2, d2, b2, e1, e2, ed, e3, h⟩, kq, kx⟩ := q
  rw [es'] at e1
  cases e1
  have hne : ys ≠ [] := fun z => by subst z; simp at hy
  obtain ⟨u, hu2, ru⟩ := hs.get e2
  rw [RV] at ru
  subst ru
  refine (pe_callB (call_isXs (hX hne _ _ e3) hm hz hf) hl'.1 (ok.blt _ (by decide +kernel)) (by decide +kernel) (pa_cons pv (pa_cons (pe_tup pa) pa_nil)) (by decide +kernel) hl'.2).run pins st σ H Q I ?_
  refine ⟨_, hu2, by rw [hl]; simp only [sizeLine]; omega, fun p np => ⟨p, vs, us, b2, rfl, upd_same, hu, (fun dd e => ?_), hk _ _ e3, kq _ g _ _ (hg.new' np) rv_bl (FK.new' np) h⟩⟩
  obtain ⟨fs, z⟩ := ed dd e
  obtain ⟨l, z1, _⟩ := hg _ _ z
  exact ⟨l, by rw [upd_ne (ne_of_none z1 np)]; exact z1⟩
theorem rvs_lookup {K : PySem.W.Frag} {H : Hp} {f : Str} {w : W} : ∀ {fs : List (Str × W)} {l : List (Str × V)}, fs.map (·.1) = l.map (·.1) → RVs K H (fs.map (·.2)) (l.map (·.2)) → fs.lookup f = some w → ∃ v, l.lookup f = some v ∧ RV K H w v
  | [], _, _, _, h => by cases h
  | (y, u) :: fs, l, e1, e2, h => by
    cases l with
    | nil => cases e1
    | cons p l =>
      obtain ⟨z, v⟩ := p
      injection e1 with k1 k2
      obtain ⟨v', r', e3, e4, e5⟩ := e2.cons_inv
      injection e3 with k3 k4
      subst k3 k4
      have k1 : y = z := k1
      subst k1
      rw [List.lookup_cons] at h ⊢
      cases c : (f == y) with
      | true => rw [c] at h; cases h; exact ⟨_, rfl, e4⟩
      | false => rw [c] at h; exact rvs_lookup k2 e5 h
theorem s_xattr (ok : CkOk ck X E w CF gl) {i : Nat} {n f : Str} {q p : Pos} (hv : isVar ck i n = true) (hfl : f ∈ ck.xfl) (hh : ck.hot = true) :
    PE X (.Attribute (.Name n q) f p) (liftE E w (eXat gl i f)) := by
  obtain ⟨a, oe, c, d, hm, es, hz, hf, hx⟩ := (ok.su hh).ex
  obtain ⟨v1, v2, v3, v4⟩ := ok.var hv
  have pv : PE X (.Name n q) (tVar i) := pe_var v1 v2 v3 v4
  refine ⟨fun pins st σ H Q I h => ?_⟩
  obtain ⟨s, g, k, x, hs, hg, ⟨a2, c2, dd, fs, wv, e1, e2, ed, el, h⟩, kq, kx⟩ := h
  rw [es] at e1
  cases e1
  obtain ⟨u, hu, ru⟩ := hs.get e2
  rw [RV] at ru
  subst ru
  obtain ⟨l, hl, k1, k2⟩ := hg _ _ ed
  obtain ⟨v, el2, rv⟩ := rvs_lookup k1 k2 el
  refine attr_of rfl (thn (pv.run pins st σ H (fun y H1 => y = .ref a ∧ H1 = H) I ⟨_, hu, rfl, rfl⟩) fun u1 s1 ⟨y, H1, I1, ry, ey, eH⟩ => ?_)
  subst ey eH
  obtain rfl : u1 = Value.ref a := ry
  obtain ⟨od, J⟩ := inst_at I1 hm hz hf fun d' e => by cases e; exact ⟨l, hl⟩
  obtain ⟨mA, hns, hr⟩ := (show ObjOk X.prog X.w H1 s1.heap dd (.xd l) from I1.hok dd _ hl)
  obtain ⟨od2, ho2, hlk⟩ := lookIn_ns hns
  have eo : od = some od2 := by
    have := J.dict
    rw [hz.2] at this
    cases od with
    | none => exact this.elim
    | some o => rw [show s1.heap.get? dd = some o from this] at ho2; exact ho2
  subst eo
  obtain ⟨u2, hu2, ru2⟩ := RelO.some_of (v := v) (o := mA f) (by rw [← el2]; exact hr f)
  exact HandSPX.exc_get I1.kIn J hx.xf.ga hx.xf.gg hx.xf.exC (PySem.W.findObj_own hx.xf.hdC (hx.no f (by rw [ok.xfl]; exact hfl)) rfl (by rw [hlk, hu2])) (handed_of ru2) ⟨v, H1, I1.tok _, ru2, kq _ g _ H1 hg rv FK.refl h⟩
theorem l_hcall {c : List W → G → XK3 → VK3 → Prop} {ta : TA3} {σ : L2.St} {H : Hp} {Q : VK} {a : Addr} {cn : Nat} {d : Option Addr} (es : gl.su = some (a, cn, d)) (hw : w = w0)
    (h : liftE E w (fun x s g k => ∃ a2 c2 d2, gl.su = some (a2, c2, d2) ∧ ta x s g fun ws g1 => c (.exc a2 c2 d2 :: ws) g1 x k) σ H Q) :
    liftA E w ta σ H (fun vs H1 => ∃ ws g q x, RVs E.K H1 ws vs ∧ GR E g H1 ∧ c (.exc a cn d :: ws) g x q ∧ KQ E g H1 q Q ∧ KX E g H1 x (fun _ _ _ => False)) := by
  obtain ⟨s, g, q, x, hs, hg, ⟨a2, c2, d2, e2, h⟩, kq, kx⟩ := h
  rw [es] at e2
  cases e2
  exact ⟨s, g, _, x, hs, hg, h, fun ws g1 vs H1 hg1 r f1 h1 => ⟨ws, g1, q, x, r, hg1, h1, kq.at f1, by have := kx.at f1; rw [hw] at this; exact this⟩, kx⟩
theorem s_hcall {c : List W → G → XK3 → VK3 → Prop} {y : Str} {q p : Pos} {v : Expr} {vs : List Expr} {ta : TA3} (ok : CkOk ck X E w CF gl) (hh : ck.hot = true) (hg : isGl ck y = true) (hc : HCallOk X E c y)
    (ha : PA X (v :: vs) (liftA E w ta)) (hp : ∀ u ∈ v :: vs, plainE u = true) :
    PE X (.Call (.Name y q) (v :: vs) [] p) (liftE E w (fun x s g k => ∃ a2 c2 d2, gl.su = some (a2, c2, d2) ∧ ta x s g fun ws g1 => c (.exc a2 c2 d2 :: ws) g1 x k)) := by
  obtain ⟨f, hm, hk, D⟩ := hc.ex
  obtain ⟨fd, ps, k, F0, hr, hb, hlen⟩ := D.ex
  obtain ⟨g1, g2⟩ := ok.gl' hg
  obtain ⟨a, oe, cn, d, hpn, es, hz, hf, hx⟩ := (ok.su hh).ex
  have F := F0 a oe cn d hz hf hx
  refine ⟨fun pins s σ H Q I h => wpAny_Call_Name_kw (ld_glob I g1 hm ?_ g2)⟩
  have h' := l_hcall (c := c) es (ok.hw hh) h
  refine PySem.W.callWith_K (h₀ := X.base) I.ok.mod.kin hk (thn (ha.run p pins s σ H _ I h') fun us s1 hu => ?_) (star_plain (hp v List.mem_cons_self)) (star_any fun u hu => hp u (List.mem_cons_of_mem v hu))
  obtain ⟨vs', H1, I1, r, ws, g3, q3, x3, r3, hg3, h3, kq, kx⟩ := hu
  refine ⟨I1.kIn, ?_⟩
  have hsp : spF E (fun ws g x q => c (.exc a cn d :: ws) g x q) ps.length vs' H1 Q (fun _ _ _ => False) := by
    refine ⟨?_, ws, g3, q3, x3, r3, hg3, h3, kq, kx⟩
    rw [r3.length]; exact hlen _ _ _ _ _ _ _ h3
  have hl : us.length = ps.length := by rw [← r.length]; exact F.len _ _ _ _ hsp
  have b := hb s1 us I1.kIn (by rw [List.append_nil]; exact hl)
  rw [List.append_nil] at b
  have k1 := I1.pin (a, oe) (List.mem_append_left _ hpn)
  have hpin : L2H.PinOk X.stack H1 s1 (a, oe) := ⟨k1.1, k1.2.1, fun hm => (List.mem_cons.mp (I1.stkSub a hm)).elim k1.2.2.1 k1.2.2.2.1, k1.2.2.2.2⟩
  refine wpAny_call (codeAny_mono (F.run X.A X.stack s1 H1 ⟨us, []⟩ us vs' Q hr hpin I1.env0 b r hsp) fun z s2 hq => ?_)
  cases z with
  | error e =>
    obtain ⟨_, _, _, _, _, _, _, _, _, _, _, _, z⟩ := (show L2.CX X.prog X.w X.stack H1 s1 (fun _ _ _ => False) e s2 from hq)
    exact z.elim
  | ok fl =>
    cases fl with
    | ret u => exact I1.after hq
    | next => exact False.elim hq
    | brk => exact False.elim hq
    | cont => exact False.elim hq
theorem l_chain {r r' : W → W → G → VK3 → Prop} {ta tb tc : TE3} {σ : L2.St} {H : Hp} {Q : VK}
    (h : liftE E w (fun x s g q => ta x s g fun u g1 => tb x s g1 fun v g2 => r u v g2 fun z g3 => ∃ k, z = .bl k ∧ (if k = true then tc x s g3 fun y g4 => r' v y g4 q else q (.bl false) g3)) σ H Q) :
    tChain (lift2 E r) (lift2 E r') (liftE E w ta) (liftE E w tb) (liftE E w tc) σ H Q := by
  obtain ⟨s, g, q, x, hs, hg, h, kq, kx⟩ := h
  refine ⟨s, g, _, x, hs, hg, h, fun a g1 v H1 hg1 ra f1 h1 => ?_, kx⟩
  have t1 := f1.tk hg
  refine ⟨s, g1, _, x, hs.keep t1, hg1, h1, fun b g2 u H2 hg2 rb f2 h2 => ?_, kx.at f1⟩
  have t2 := f2.tk hg1
  refine ⟨a, b, g2, _, ra.keep t2, rb, hg2, h2, fun z g3 v3 H3 hg3 r3 f3 h3 => ?_⟩
  obtain ⟨k, rfl, h3⟩ := h3
  rw [RV] at r3
  refine ⟨k, r3, ?_⟩
  have f13 := (f1.trans f2).trans f3
  have t3 := f3.tk hg2
  by_cases hk : k = true
  · rw [if_pos hk] at h3 ⊢
    refine ⟨s, g3, _, x, ((hs.keep t1).keep t2).keep t3, hg3, h3, fun y g4 v4 H4 hg4 r4 f4 h4 => ?_, kx.at f13⟩
    exact ⟨b, y, g4, q, (rb.keep t3).keep (f4.tk hg3), r4, hg4, h4, kq.at (f13.trans f4)⟩
  · rw [if_neg hk] at h3 ⊢
    exact kq _ g3 _ H3 hg3 rv_bl f13 h3
theorem l_chain3 {r r' r'' : W → W → G → VK3 → Prop} {ta tb tc td : TE3} {σ : L2.St} {H : Hp} {Q : VK}
    (h : liftE E w (fun x s g q => ta x s g fun u g1 => tb x s g1 fun v g2 => r u v g2 fun z g3 => ∃ k, z = .bl k ∧ (if k = true then tc x s g3 fun y g4 => r' v y g4 fun z2 g5 => ∃ k2, z2 = .bl k2 ∧
      (if k2 = true then td x s g5 fun y2 g6 => r'' y y2 g6 q else q (.bl false) g5) else q (.bl false) g3)) σ H Q) :
    tChain3 (lift2 E r) (lift2 E r') (lift2 E r'') (liftE E w ta) (liftE E w tb) (liftE E w tc) (liftE E w td) σ H Q := by
  obtain ⟨s, g, q, x, hs, hg, h, kq, kx⟩ := h
  refine ⟨s, g, _, x, hs, hg, h, fun a g1 v H1 hg1 ra f1 h1 => ?_, kx⟩
  have t1 := f1.tk hg
  refine ⟨s, g1, _, x, hs.keep t1, hg1, h1, fun b g2 u H2 hg2 rb f2 h2 => ?_, kx.at f1⟩
  have t2 := f2.tk hg1
  refine ⟨a, b, g2, _, ra.keep t2, rb, hg2, h2, fun z g3 v3 H3 hg3 r3 f3 h3 => ?_⟩
  obtain ⟨k, rfl, h3⟩ := h3
  rw [RV] at r3
  refine ⟨k, r3, ?_⟩
  have f13 := (f1.trans f2).trans f3
  have t3 := f3.tk hg2
  by_cases hk : k = true
  · rw [if_pos hk] at h3 ⊢
    have hs3 := ((hs.keep t1).keep t2).keep t3
    refine ⟨s, g3, _, x, hs3, hg3, h3, fun y g4 v4 H4 hg4 r4 f4 h4 => ?_, kx.at f13⟩
    have t4 := f4.tk hg3
    refine ⟨b, y, g4, _, (rb.keep t3).keep t4, r4, hg4, h4, fun z2 g5 v5 H5 hg5 r5 f5 h5 => ?_⟩
    obtain ⟨k2, rfl, h5⟩ := h5
    rw [RV] at r5
    refine ⟨k2, r5, ?_⟩
    have f15 := (f13.trans f4).trans f5
    have t5 := f5.tk hg4
    by_cases hk2 : k2 = true
    · rw [if_pos hk2] at h5 ⊢
      refine ⟨s, g5, _, x, (hs3.keep t4).keep t5, hg5, h5, fun y2 g6 v6 H6 hg6 r6 f6 h6 => ?_, kx.at f15⟩
      exact ⟨y, y2, g6, q, (r4.keep t5).keep (f6.tk hg5), r6, hg6, h6, kq.at (f15.trans f6)⟩
    · rw [if_neg hk2] at h5 ⊢
      exact kq _ g5 _ H5 hg5 rv_bl f15 h5
  · rw [if_neg hk] at h3 ⊢
    exact kq _ g3 _ H3 hg3 rv_bl f13 h3
theorem l_not {ta : TE3} {σ : L2.St} {H : Hp} {Q : VK} (h : liftE E w (fun x s g q => ta x s g fun u g1 => ∃ b, u = .bl b ∧ q (.bl (!b)) g1) σ H Q) : tNotV (liftE E w ta) σ H Q := by
  obtain ⟨s, g, q, x, hs, hg, h, kq, kx⟩ := h
  refine ⟨s, g, _, x, hs, hg, h, fun a g1 v H1 hg1 ra f1 h1 => ?_, kx⟩
  obtain ⟨b, rfl, h1⟩ := h1
  rw [RV] at ra
  exact ⟨b, ra, kq _ g1 _ H1 hg1 rv_bl f1 h1⟩
theorem l_notT {ta : TE3} {σ : L2.St} {H : Hp} {Q : Bool → Hp → Prop} (h : liftT E w (bT (fun x s g q => ta x s g fun u g1 => ∃ b, u = .bl b ∧ q (.bl (!b)) g1)) σ H Q) : tNot (liftT E w (bT ta)) σ H Q := by
  obtain ⟨s, g, q, x, hs, hg, h, kq, kx⟩ := h
  refine ⟨s, g, _, x, hs, hg, h, fun b g1 H1 hg1 f1 h1 => ?_, kx⟩
  obtain ⟨c, e, h1⟩ := h1
  cases e
  exact kq _ g1 H1 hg1 f1 h1
end
end L3
set_option maxRecDepth 100000
set_option maxHeartbeats 16000000
namespace L3
open PySem PySem.Spec L2
def andE (ta tb : TE3) : TE3 := fun x s g q => ta x s g fun u g1 => ∃ b, u = .bl b ∧ if b = true then tb x s g1 q else q (.bl false) g1
def orE (ta tb : TE3) : TE3 := fun x s g q => ta x s g fun u g1 => ∃ b, u = .bl b ∧ if b = true then q (.bl true) g1 else tb x s g1 q
section
variable {X : Cx} {E : Env3} {w : WX} {CF : CF3} {gl : Gs} {ck : Ck}
theorem l_andV {ta tb : TE3} {σ : L2.St} {H : Hp} {Q : VK} (h : liftE E w (andE ta tb) σ H Q) : tAndV (liftE E w ta) (liftE E w tb) σ H Q := by
  obtain ⟨s, g, q, x, hs, hg, h, kq, kx⟩ := h
  refine ⟨s, g, _, x, hs, hg, h, fun a g1 v H1 hg1 ra f1 h1 => ?_, kx⟩
  obtain ⟨b, rfl, h1⟩ := h1
  rw [RV] at ra
  refine ⟨b, ra, ?_⟩
  by_cases hb : b = true
  · rw [if_pos hb] at h1 ⊢
    exact ⟨s, g1, q, x, hs.keep (f1.tk hg), hg1, h1, kq.at f1, kx.at f1⟩
  · rw [if_neg hb] at h1 ⊢
    exact kq _ g1 _ H1 hg1 rv_bl f1 h1
theorem l_orV {ta tb : TE3} {σ : L2.St} {H : Hp} {Q : VK} (h : liftE E w (orE ta tb) σ H Q) : tOrV (liftE E w ta) (liftE E w tb) σ H Q := by
  obtain ⟨s, g, q, x, hs, hg, h, kq, kx⟩ := h
  refine ⟨s, g, _, x, hs, hg, h, fun a g1 v H1 hg1 ra f1 h1 => ?_, kx⟩
  obtain ⟨b, rfl, h1⟩ := h1
  rw [RV] at ra
  refine ⟨b, ra, ?_⟩
  by_cases hb : b = true
  · rw [if_pos hb] at h1 ⊢
    exact kq _ g1 _ H1 hg1 rv_bl f1 h1
  · rw [if_neg hb] at h1 ⊢
    exact ⟨s, g1, q, x, hs.keep (f1.tk hg), hg1, h1, kq.at f1, kx.at f1⟩
theorem l_andT {ta tb : TE3} {σ : L2.St} {H : Hp} {Q : Bool → Hp → Prop} (h : liftT E w (bT (andE ta tb)) σ H Q) : tAnd (liftT E w (bT ta)) (liftT E w (bT tb)) σ H Q := by
  obtain ⟨s, g, q, x, hs, hg, h, kq, kx⟩ := h
  refine ⟨s, g, _, x, hs, hg, h, fun b g1 H1 hg1 f1 h1 => ?_, kx⟩
  show if b = true then _ else _
  replace h1 : if b = true then _ else _ := h1
  by_cases hb : b = true
  · rw [if_pos hb] at h1 ⊢
    exact ⟨s, g1, q, x, hs.keep (f1.tk hg), hg1, h1, kq.at f1, kx.at f1⟩
  · rw [if_neg hb] at h1 ⊢
    obtain ⟨c, e, h1⟩ := h1
    cases e
    exact kq _ g1 H1 hg1 f1 h1
theorem l_orT {ta tb : TE3} {σ : L2.St} {H : Hp} {Q : Bool → Hp → Prop} (h : liftT E w (bT (orE ta tb)) σ H Q) : tOr (liftT E w (bT ta)) (liftT E w (bT tb)) σ H Q := by
  obtain ⟨s, g, q, x, hs, hg, h, kq, kx⟩ := h
  refine ⟨s, g, _, x, hs, hg, h, fun b g1 H1 hg1 f1 h1 => ?_, kx⟩
  show if b = true then _ else _
  replace h1 : if b = true then _ else _ := h1
  by_cases hb : b = true
  · rw [if_pos hb] at h1 ⊢
    obtain ⟨c, e, h1⟩ := h1
    cases e
    exact kq _ g1 H1 hg1 f1 h1
  · rw [if_neg hb] at h1 ⊢
    exact ⟨s, g1, q, x, hs.keep (f1.tk hg), hg1, h1, kq.at f1, kx.at f1⟩
theorem l_ite {tc : TT3} {ta tb : TE3} {σ : L2.St} {H : Hp} {Q : VK} (h : liftE E w (eIf tc ta tb) σ H Q) : tIf (liftT E w tc) (liftE E w ta) (liftE E w tb) σ H Q := by
  obtain ⟨s, g, q, x, hs, hg, h, kq, kx⟩ := h
  refine ⟨s, g, _, x, hs, hg, h, fun b g1 H1 hg1 f1 h1 => ?_, kx⟩
  show if b = true then _ else _
  replace h1 : if b = true then _ else _ := h1
  by_cases hb : b = true
  · rw [if_pos hb] at h1 ⊢
    exact ⟨s, g1, q, x, hs.keep (f1.tk hg), hg1, h1, kq.at f1, kx.at f1⟩
  · rw [if_neg hb] at h1 ⊢
    exact ⟨s, g1, q, x, hs.keep (f1.tk hg), hg1, h1, kq.at f1, kx.at f1⟩
theorem pt_ite {t y z : Expr} {p : Pos} {tc : TT3} {ta tb : TE3} (hc : PT X t (liftT E w tc)) (ha : PT X y (liftT E w (bT ta))) (hb : PT X z (liftT E w (bT tb))) : PT X (.IfExp t y z p) (liftT E w (bT (eIf tc ta tb))) := by
  refine ⟨fun pins s σ H Q I h => ?_⟩
  obtain ⟨s3, g, q, x, hs, hg, h, kq, kx⟩ := h
  show wpAny _ _ (isTrue t X.env (eval t X.env) >>= fun b => if b = true then isTrue y X.env (eval y X.env) else isTrue z X.env (eval z X.env)) _ _ _
  refine wpAny_bind (thn (hc.run pins s σ H (fun b H1 => if b = true then liftT E w (bT ta) σ H1 Q else liftT E w (bT tb) σ H1 Q) I ⟨s3, g, _, x, hs, hg, h, fun b g1 H1 hg1 f1 h1 => ?_, kx⟩) fun b s1 hb1 => ?_)
  · show if b = true then _ else _
    replace h1 : if b = true then _ else _ := h1
    by_cases e : b = true
    · rw [if_pos e] at h1 ⊢
      exact ⟨s3, g1, _, x, hs.keep (f1.tk hg), hg1, h1, kq.at f1, kx.at f1⟩
    · rw [if_neg e] at h1 ⊢
      exact ⟨s3, g1, _, x, hs.keep (f1.tk hg), hg1, h1, kq.at f1, kx.at f1⟩
  · obtain ⟨H1, I1, q1⟩ := hb1
    by_cases e : b = true
    · rw [if_pos e] at q1 ⊢
      exact ha.run pins s1 σ H1 Q I1 q1
    · rw [if_neg e] at q1 ⊢
      exact hb.run pins s1 σ H1 Q I1 q1
def liftO (E : Env3) (w : WX) (t : TO3) : TO := fun σ H Q => ∃ s g q x, SR E.K H s σ ∧ GR E g H ∧ t x s g q ∧ (∀ o g' H', GR E g' H' → FK g H g' H' → q o g' → Q o H') ∧ KX E g H x (fun cls d H' => w cls d σ H')
theorem l_sl3 {ta : TE3} {tl th : TO3} {σ : L2.St} {H : Hp} {Q : VK} (h : liftE E w (eSl ta tl th) σ H Q) : tSl (liftSl (E := E) slS) (liftE E w ta) (liftO E w tl) (liftO E w th) σ H Q := by
  obtain ⟨s, g, q, x, hs, hg, h, kq, kx⟩ := h
  refine ⟨s, g, _, x, hs, hg, h, fun a g1 v H1 hg1 ra f1 h1 => ?_, kx⟩
  have t1 := f1.tk hg
  refine ⟨s, g1, _, x, hs.keep t1, hg1, h1, fun lo g2 H2 hg2 f2 h2 => ?_, kx.at f1⟩
  have t2 := f2.tk hg1
  refine ⟨s, g2, _, x, (hs.keep t1).keep t2, hg2, h2, fun hi g3 H3 hg3 f3 h3 => ?_, kx.at (f1.trans f2)⟩
  exact ⟨a, g3, q, (ra.keep t2).keep (f3.tk hg2), hg3, h3, kq.at ((f1.trans f2).trans f3)⟩
theorem po_I {e : Option Expr} {t t' : TO} (h : PO X e t) (i : ∀ σ H Q, t' σ H Q → t σ H Q) : PO X e t' := ⟨fun pins s σ H Q I q => h.run pins s σ H Q I (i σ H Q q)⟩
theorem pts_I {e : List Expr} {t t' : TT} (h : PTs X e t) (i : ∀ σ H Q, t' σ H Q → t σ H Q) : PTs X e t' := ⟨fun pins s σ H Q I q => h.run pins s σ H Q I (i σ H Q q)⟩
theorem CkOk.blk (ok : CkOk ck X E w CF gl) (hh : ck.hot = false) (s : Shared) (H : Hp) (scope : Scope) (hk : scope.kind = .function) (C : Addr) (cl : List (Str × Addr)) (fp : List Addr) :
    CkOk (ck.inner scope) (X.blk s H scope (compEnvC scope cl C X.env) fp) E w0 CF gl where
  hK := ok.hK
  hN := ok.hN
  nd := ok.nd
  sc := by
    show relabel scope X.env = relabel scope (envS ck.sc)
    unfold relabel
    rw [← ok.sc]
    rfl
  kind := hk
  calm := ok.calm
  stk := fun h => ff h
  cs := fun p h => let ⟨q⟩ := ok.cs p h; ⟨q⟩
  su := fun h => absurd (hh.symm.trans h) (by decide)
  fn := fun h => ff h
  tk := takes0
  pass := PassesOwn.never
  hu := ok.hu
  blt := ok.blt
  gls := ok.gls
  fns := fun _ i x e => let ⟨f, h1, h2, ⟨h3⟩⟩ := (ok.fns hh i x e).ex; ⟨f, h1, h2, ⟨h3⟩⟩
  goc := ok.goc
  cl := ⟨ok.cl.on, ok.cl.fl, ok.cl.cls, ok.cl.noat⟩
  ob := fun _ => ⟨fun c oc m i h1 h2 => let ⟨fa, k1, ⟨k2⟩⟩ := (ok.ob hh).meth c oc m i h1 h2; ⟨fa, k1, ⟨k2⟩⟩, fun c oc h1 => let ⟨fa, k1, k3, ⟨k2⟩, k4⟩ := (ok.ob hh).mkr c oc h1; ⟨fa, k1, k3, ⟨k2⟩, k4⟩⟩
  ics := fun p h => let ⟨q⟩ := ok.ics p h; ⟨q⟩
  xs := fun _ c x e => nomatch e
  xfl := ok.xfl
  hw := fun _ => rfl
  room := fun h => ff h
  hfn := fun h => ff h
end
end L3
set_option maxRecDepth 100000
set_option maxHeartbeats 16000000
namespace L3
open PySem PySem.Spec L2
section
variable {E : Env3} {CF : CF3} {gl : Gs}
theorem blk_kind {N : List Str} {sc scope : Scope} {own : List (Str × Nat)} (h : blkC N sc scope own = true) : scope.kind = .function := (blkOk_by h).kind
theorem own_ix {N : List Str} : ∀ {own : List Nat}, (∀ i ∈ own, i < N.length) → (own.filterMap fun i => N[i]?.map fun x => (x, i)).map (·.2) = own
  | [], _ => rfl
  | i :: own, h => by
    have hi := h i List.mem_cons_self
    rw [List.filterMap_cons, List.getElem?_eq_getElem hi]
    show i :: _ = _
    rw [own_ix fun j hj => h j (List.mem_cons_of_mem _ hj)]
theorem fold_id {iter : Expr} {env : Env} (h : (match iter with | .Set .. => false | _ => true) = true) : ∀ x, foldedSetIterable iter env x = pure x := by
  intro x
  cases iter <;> first | rfl | (simp at h)
theorem chk_noset {ck : Ck} : ∀ (e : E3) (a : List Expr) (b : Nat) (c : Pos), chk e ck (.Set a b c) = true → False
  | .frz e, a, b, c, h => chk_noset e a b c (i_frz h).2
  | .var _, _, _, _, h => ff h | .int _, _, _, _, h => ff h | .str _, _, _, _, h => ff h | .bl _, _, _, _, h => ff h | .non, _, _, _, h => ff h | .glob _, _, _, _, h => ff h | .bin _ _ _, _, _, _, h => ff h
  | .neg _, _, _, _, h => ff h | .cmp _ _ _, _, _, _, h => ff h | .cmp2 _ _ _ _ _, _, _, _, h => ff h | .cmp3 _ _ _ _ _ _ _, _, _, _, h => ff h | .and _, _, _, _, h => ff h | .or _, _, _, _, h => ff h | .not _, _, _, _, h => ff h
  | .ite _ _ _, _, _, _, h => ff h | .lst _, _, _, _, h => ff h | .tup _, _, _, _, h => ff h | .dic _, _, _, _, h => ff h | .ix _ _, _, _, _, h => ff h | .sl _ _ _, _, _, _, h => ff h | .call _ _, _, _, _, h => ff h
  | .prim _ _, _, _, _, h => ff h | .meth _ _ _, _, _, _, h => ff h | .isi _ _, _, _, _, h => ff h | .isx _ _ _, _, _, _, h => ff h | .isxs _ _, _, _, _, h => ff h | .lc _ _ _ _ _, _, _, _, h => ff h | .lcK _ _ _ _ _, _, _, _, h => ff h
  | .dget1 _ _, _, _, _, h => ff h | .dget2 _ _ _, _, _, _, h => ff h | .dsetd _ _ _, _, _, _, h => ff h | .dpop2 _ _ _, _, _, _, h => ff h | .dpop1 _ _, _, _, _, h => ff h | .dic1 _ _, _, _, _, h => ff h | .dic2 _ _ _ _, _, _, _, h => ff h | .lrev _, _, _, _, h => ff h | .lset _, _, _, _, h => ff h | .mxd _ _ _, _, _, _, h => ff h | .sset _, _, _, _, h => ff h
  | .attr _ _, _, _, _, h => ff h | .mcall _ _ _, _, _, _, h => ff h | .new _ _ _, _, _, _, h => ff h | .fmt _, _, _, _, h => ff h | .fstr _, _, _, _, h => ff h | .nev, _, _, _, h => ff h | .ccall _ _ _ _, _, _, _, h => ff h | .isc _ _ _, _, _, _, h => ff h | .xattr _ _, _, _, _, h => ff h | .hcall _ _, _, _, _, h => ff h
theorem chk_nostar {ck : Ck} : ∀ (e : E3) (a : Expr) (c : Pos), chk e ck (.Starred a c) = true → False
  | .frz e, a, c, h => chk_nostar e a c (i_frz h).2
  | .var _, _, _, h => ff h | .int _, _, _, h => ff h | .str _, _, _, h => ff h | .bl _, _, _, h => ff h | .non, _, _, h => ff h | .glob _, _, _, h => ff h | .bin _ _ _, _, _, h => ff h
  | .neg _, _, _, h => ff h | .cmp _ _ _, _, _, h => ff h | .cmp2 _ _ _ _ _, _, _, h => ff h | .cmp3 _ _ _ _ _ _ _, _, _, h => ff h | .and _, _, _, h => ff h | .or _, _, _, h => ff h | .not _, _, _, h => ff h
  | .ite _ _ _, _, _, h => ff h | .lst _, _, _, h => ff h | .tup _, _, _, h => ff h | .dic _, _, _, h => ff h | .ix _ _, _, _, h => ff h | .sl _ _ _, _, _, h => ff h | .call _ _, _, _, h => ff h
  | .prim _ _, _, _, h => ff h | .meth _ _ _, _, _, h => ff h | .isi _ _, _, _, h => ff h | .isx _ _ _, _, _, h => ff h | .isxs _ _, _, _, h => ff h | .lc _ _ _ _ _, _, _, h => ff h | .lcK _ _ _ _ _, _, _, h => ff h
  | .dget1 _ _, _, _, h => ff h | .dget2 _ _ _, _, _, h => ff h | .dsetd _ _ _, _, _, h => ff h | .dpop2 _ _ _, _, _, h => ff h | .dpop1 _ _, _, _, h => ff h | .dic1 _ _, _, _, h => ff h | .dic2 _ _ _ _, _, _, h => ff h | .lrev _, _, _, h => ff h | .lset _, _, _, h => ff h | .mxd _ _ _, _, _, h => ff h | .sset _, _, _, h => ff h
  | .attr _ _, _, _, h => ff h | .mcall _ _ _, _, _, h => ff h | .new _ _ _, _, _, h => ff h | .fmt _, _, _, h => ff h | .fstr _, _, _, h => ff h | .nev, _, _, h => ff h | .ccall _ _ _ _, _, _, h => ff h | .isc _ _ _, _, _, h => ff h | .xattr _ _, _, _, h => ff h | .hcall _ _, _, _, h => ff h
theorem chki_noset {it : I3} {ck : Ck} {t : Bool} {x : Expr} : chki it ck t x = true → (match x with | .Set .. => false | _ => true) = true := by
  intro h
  cases x <;> first | rfl | skip
  have key : ∀ (e : E3) (a : List Expr) (b : Nat) (c : Pos), chk e ck (.Set a b c) = true → False := chk_noset
  cases it <;> first | exact ff h | exact (key _ _ _ _ h).elim
theorem i_items {a : E3} {ck : Ck} {t : Bool} {x : Expr} (h : chki (.items a) ck t x = true) : ∃ l q p, x = .Call (.Attribute l "items" q) [] [] p ∧ t = true ∧ plainBase l = true ∧ (q.endLine == p.line) = true ∧ chk a ck l = true := by
  cases x <;> first | exact ff h | skip
  rename_i fn vs kw p
  cases fn <;> first | exact ff h | skip
  match vs, kw, h with
  | [], [], h =>
    obtain ⟨h, h4⟩ := bool_and h
    obtain ⟨h, h3⟩ := bool_and h
    obtain ⟨h, h2⟩ := bool_and h
    obtain ⟨h0, h1⟩ := bool_and h
    have e := of_decide_eq_true h1
    subst e
    exact ⟨_, _, _, rfl, h0, h2, h3, h4⟩
  | _ :: _, _, h => exact ff h
  | [], _ :: _, h => exact ff h
theorem l_lcK {E : Env3} {w : WX} {tg : T3} {own : List Nat} {ti : TI3} {tt : TT3} {te : TE3} (m : ∀ i ∈ tIs tg, i ∈ own) {σ : L2.St} {H : Hp} {Q : VK}
    (h : liftE E w (fun x s g q => ti x s g fun items ok g1 => lcI tg ok (fun s2 g2 k => tt (fun _ _ _ => False) s2 g2 k) (fun s2 g2 k => te (fun _ _ _ => False) s2 g2 k) (wipe3 s own) (fun w g' => un g (q w) g') items [] g1) σ H Q) :
    tUnlE (tLc (liftI E w ti) (gT E.K tg) (liftT E w0 tt) (liftE E w0 te) own) σ H Q := by
  obtain ⟨s, g, q, x, hs, hg, h, kq, kx⟩ := h
  exact l_lc (Q := fun v H' => unH H (Q v) H') m ⟨s, g, _, x, hs, hg, h, un_kq hg kq, kx⟩
theorem i_1 {it : E3 → I3} {nm : Str} {a : E3} {ck : Ck} {t : Bool} {x : Expr} (hs : (it = .rng1 ∧ nm = "range") ∨ (it = .rev ∧ nm = "reversed") ∨ (it = .enum ∧ nm = "enumerate")) (h : chki (it a) ck t x = true) :
    ∃ q v p, x = .Call (.Name nm q) [v] [] p ∧ isGl ck nm = true ∧ chk a ck v = true ∧ plainE v = true ∧ (it = .enum → t = true) := by
  rcases hs with ⟨rfl, rfl⟩ | ⟨rfl, rfl⟩ | ⟨rfl, rfl⟩
  · cases x <;> first | exact ff h | skip
    rename_i fn vs kw p
    cases fn <;> first | exact ff h | skip
    match vs, kw, h with
    | [v], [], h =>
      obtain ⟨h, h4⟩ := bool_and h
      obtain ⟨h, h3⟩ := bool_and h
      obtain ⟨h1, h2⟩ := bool_and h
      have e := of_decide_eq_true h1
      subst e
      exact ⟨_, _, _, rfl, h2, h3, h4, fun z => nomatch congrFun z a⟩
    | [], _, h => exact ff h
    | _ :: _ :: _, _, h => exact ff h
    | [_], _ :: _, h => exact ff h
  · cases x <;> first | exact ff h | skip
    rename_i fn vs kw p
    cases fn <;> first | exact ff h | skip
    match vs, kw, h with
    | [v], [], h =>
      obtain ⟨h, h4⟩ := bool_and h
      obtain ⟨h, h3⟩ := bool_and h
      obtain ⟨h1, h2⟩ := bool_and h
      have e := of_decide_eq_true h1
      subst e
      exact ⟨_, _, _, rfl, h2, h3, h4, fun z => nomatch congrFun z a⟩
    | [], _, h => exact ff h
    | _ :: _ :: _, _, h => exact ff h
    | [_], _ :: _, h => exact ff h
  · cases x <;> first | exact ff h | skip
    rename_i fn vs kw p
    cases fn <;> first | exact ff h | skip
    match vs, kw, h with
    | [v], [], h =>
      obtain ⟨h, h4⟩ := bool_and h
      obtain ⟨h, h3⟩ := bool_and h
      obtain ⟨h, h2⟩ := bool_and h
      obtain ⟨h0, h1⟩ := bool_and h
      have e := of_decide_eq_true h1
      subst e
      exact ⟨_, _, _, rfl, h2, h3, h4, fun _ => h0⟩
    | [], _, h => exact ff h
    | _ :: _ :: _, _, h => exact ff h
    | [_], _ :: _, h => exact ff h
theorem i_2 {it : E3 → E3 → I3} {nm : Str} {a b : E3} {ck : Ck} {t : Bool} {x : Expr} (hs : (it = .rng2 ∧ nm = "range") ∨ (it = .zip ∧ nm = "zip")) (h : chki (it a b) ck t x = true) :
    ∃ q v u p, x = .Call (.Name nm q) [v, u] [] p ∧ isGl ck nm = true ∧ chk a ck v = true ∧ chk b ck u = true ∧ plainE v = true ∧ plainE u = true ∧ (it = .zip → t = true) := by
  rcases hs with ⟨rfl, rfl⟩ | ⟨rfl, rfl⟩
  · cases x <;> first | exact ff h | skip
    rename_i fn vs kw p
    cases fn <;> first | exact ff h | skip
    match vs, kw, h with
    | [v, u], [], h =>
      obtain ⟨h, h6⟩ := bool_and h
      obtain ⟨h, h5⟩ := bool_and h
      obtain ⟨h, h4⟩ := bool_and h
      obtain ⟨h, h3⟩ := bool_and h
      obtain ⟨h1, h2⟩ := bool_and h
      have e := of_decide_eq_true h1
      subst e
      exact ⟨_, _, _, _, rfl, h2, h3, h4, h5, h6, fun z => nomatch congrFun (congrFun z a) b⟩
    | [], _, h => exact ff h
    | [_], _, h => exact ff h
    | _ :: _ :: _ :: _, _, h => exact ff h
    | [_, _], _ :: _, h => exact ff h
  · cases x <;> first | exact ff h | skip
    rename_i fn vs kw p
    cases fn <;> first | exact ff h | skip
    match vs, kw, h with
    | [v, u], [], h =>
      obtain ⟨h, h6⟩ := bool_and h
      obtain ⟨h, h5⟩ := bool_and h
      obtain ⟨h, h4⟩ := bool_and h
      obtain ⟨h, h3⟩ := bool_and h
      obtain ⟨h, h2⟩ := bool_and h
      obtain ⟨h0, h1⟩ := bool_and h
      have e := of_decide_eq_true h1
      subst e
      exact ⟨_, _, _, _, rfl, h2, h3, h4, h5, h6, fun _ => h0⟩
    | [], _, h => exact ff h
    | [_], _, h => exact ff h
    | _ :: _ :: _ :: _, _, h => exact ff h
    | [_, _], _ :: _, h => exact ff h
theorem i_3 {a b c : E3} {ck : Ck} {t : Bool} {x : Expr} (h : chki (.rng3 a b c) ck t x = true) :
    ∃ q v u y p, x = .Call (.Name "range" q) [v, u, y] [] p ∧ isGl ck "range" = true ∧ chk a ck v = true ∧ chk b ck u = true ∧ chk c ck y = true ∧ plainE v = true ∧ plainE u = true ∧ plainE y = true := by
  cases x <;> first | exact ff h | skip
  rename_i fn vs kw p
  cases fn <;> first | exact ff h | skip
  match vs, kw, h with
  | [v, u, y], [], h =>
    obtain ⟨h, h8⟩ := bool_and h
    obtain ⟨h, h7⟩ := bool_and h
    obtain ⟨h, h6⟩ := bool_and h
    obtain ⟨h, h5⟩ := bool_and h
    obtain ⟨h, h4⟩ := bool_and h
    obtain ⟨h, h3⟩ := bool_and h
    obtain ⟨h1, h2⟩ := bool_and h
    have e := of_decide_eq_true h1
    subst e
    exact ⟨_, _, _, _, _, rfl, h2, h3, h4, h5, h6, h7, h8⟩
  | [], _, h => exact ff h
  | [_], _, h => exact ff h
  | [_, _], _, h => exact ff h
  | _ :: _ :: _ :: _ :: _, _, h => exact ff h
  | [_, _, _], _ :: _, h => exact ff h
theorem isTup_inv {e : Expr} (h : isTupE e = true) : ∃ es k p, e = .Tuple es k p := by
  cases e <;> first | exact ff h | exact ⟨_, _, _, rfl⟩
mutual
theorem s_e : ∀ (e : E3) {X : Cx} {w : WX} {ck : Ck}, CkOk ck X E w CF gl → ∀ {x : Expr}, chk e ck x = true → PE X x (liftE E w (ev CF gl e)) ∧ PT X x (liftT E w (bT (ev CF gl e)))
  | .var i, X, w, ck, ok, x, h => by
    obtain ⟨y, p, rfl, h⟩ := i_var h
    obtain ⟨h1, h2, h3, h4⟩ := ok.var h
    have a : PE X (.Name y p) (liftE E w (eVar i)) := peI (pe_var h1 h2 h3 h4) fun _ _ _ => l_var i
    exact ⟨a, ptOf a rfl⟩
  | .int i, X, w, ck, ok, x, h => by
    obtain ⟨k, p, rfl⟩ := i_int h
    have a : PE X (.Constant (.int i) k p) (liftE E w (eC (.int i))) := peI pe_int fun _ _ _ => l_c fun _ => rv_int
    exact ⟨a, ptOf a rfl⟩
  | .str i, X, w, ck, ok, x, h => by
    obtain ⟨k, p, rfl⟩ := i_str h
    have a : PE X (.Constant (.str i) k p) (liftE E w (eC (.str i))) := peI pe_str fun _ _ _ => l_c fun _ => rv_str
    exact ⟨a, ptOf a rfl⟩
  | .bl i, X, w, ck, ok, x, h => by
    obtain ⟨k, p, rfl⟩ := i_bl h
    have a : PE X (.Constant (.bool i) k p) (liftE E w (eC (.bl i))) := peI pe_bl fun _ _ _ => l_c fun _ => rv_bl
    exact ⟨a, ptOf a rfl⟩
  | .non, X, w, ck, ok, x, h => by
    obtain ⟨k, p, rfl⟩ := i_non h
    have a : PE X (.Constant .none k p) (liftE E w (eC .non)) := peI pe_non fun _ _ _ => l_c fun _ => rv_non
    exact ⟨a, ptOf a rfl⟩
  | .glob i, X, w, ck, ok, x, h => by
    obtain ⟨y, p, rfl, h1, h2⟩ := i_glob h
    obtain ⟨u, v, hm, ru, rv⟩ := ok.gls i y h1
    obtain ⟨g1, g2⟩ := ok.gl' h2
    have a : PE X (.Name y p) (liftE E w (eC (gl.v i))) := peI (pe_glob g1 hm ru g2) fun _ _ _ => l_c rv
    exact ⟨a, ptOf a rfl⟩
  | .bin o a b, X, w, ck, ok, x, h => by
    obtain ⟨l, r, p, rfl, h1, h2⟩ := i_bin h
    have a' : PE X (.BinOp l (boOf o) r p) (liftE E w (e2 (boS o) (ev CF gl a) (ev CF gl b))) := peI (pe_op (bo_ok ok o) (s_e a ok h1).1 (s_e b ok h2).1) fun _ _ _ => l_2
    exact ⟨a', ptOf a' rfl⟩
  | .neg a, X, w, ck, ok, x, h => by
    obtain ⟨l, p, rfl, h1⟩ := i_neg h
    have a' : PE X (.UnaryOp .USub l p) (liftE E w (e1 negS (ev CF gl a))) := peI (pe_un l_neg (s_e a ok h1).1) fun _ _ _ => l_1
    exact ⟨a', ptOf a' rfl⟩
  | .cmp o a b, X, w, ck, ok, x, h => by
    obtain ⟨l, r, p, rfl, h1, h2, h3⟩ := i_cmp h
    exact ⟨peI (pe_cmpR (co_ok ok o) (s_e a ok h1).1 (s_e b ok h2).1 h3) fun _ _ _ => l_2, ptI (pt_cmpR (co_ok ok o) (s_e a ok h1).1 (s_e b ok h2).1 h3) fun _ _ _ => l_tst l_2⟩
  | .cmp2 o o' a b c, X, w, ck, ok, x, h => by
    obtain ⟨l, r, r', p, rfl, h1, h2, h3, h4⟩ := i_cmp2 h
    exact ⟨peI (pe_chain (co_ok ok o) (co_ok ok o') (s_e a ok h1).1 (s_e b ok h2).1 (s_e c ok h3).1 h4) fun _ _ _ => l_chain,
      ptI (pt_chain (co_ok ok o) (co_ok ok o') (s_e a ok h1).1 (s_e b ok h2).1 (s_e c ok h3).1 h4) fun _ _ _ q => l_chain (l_bT q)⟩
  | .cmp3 o o' o'' a b c d, X, w, ck, ok, x, h => by
    obtain ⟨l, r, r', r'', p, rfl, h1, h2, h3, h4, h5⟩ := i_cmp3 h
    exact ⟨peI (pe_chain3 (co_ok ok o) (co_ok ok o') (co_ok ok o'') (s_e a ok h1).1 (s_e b ok h2).1 (s_e c ok h3).1 (s_e d ok h4).1 h5) fun _ _ _ => l_chain3,
      ptI (pt_chain3 (co_ok ok o) (co_ok ok o') (co_ok ok o'') (s_e a ok h1).1 (s_e b ok h2).1 (s_e c ok h3).1 (s_e d ok h4).1 h5) fun _ _ _ q => l_chain3 (l_bT q)⟩
  | .and es, X, w, ck, ok, x, h => by
    obtain ⟨vs, p, rfl, h⟩ := i_and h
    exact ⟨(s_and es ok h p).1, (s_and es ok h p).2.pt⟩
  | .or es, X, w, ck, ok, x, h => by
    obtain ⟨vs, p, rfl, h⟩ := i_or h
    exact ⟨(s_or es ok h p).1, (s_or es ok h p).2.pt⟩
  | .not a, X, w, ck, ok, x, h => by
    obtain ⟨l, p, rfl, h1⟩ := i_not h
    exact ⟨peI (pe_not (s_e a ok h1).1) fun _ _ _ => l_not, ptI (pt_not (s_e a ok h1).2) fun _ _ _ => l_notT⟩
  | .ite c a b, X, w, ck, ok, x, h => by
    obtain ⟨t, l, r, p, rfl, h1, h2, h3⟩ := i_ite h
    exact ⟨peI (pe_ifExp (s_e c ok h1).2 (s_e a ok h2).1 (s_e b ok h3).1) fun _ _ _ => l_ite, pt_ite (s_e c ok h1).2 (s_e a ok h2).2 (s_e b ok h3).2⟩
  | .lst es, X, w, ck, ok, x, h => by
    obtain ⟨vs, p, rfl, h⟩ := i_lst h
    have a : PE X (.List vs p) (liftE E w (eLst (evs CF gl es))) := peI (pe_lst (s_es es ok h)) fun _ _ _ => l_lst
    exact ⟨a, ptOf a rfl⟩
  | .tup es, X, w, ck, ok, x, h => by
    obtain ⟨vs, k, p, rfl, h⟩ := i_tup h
    have a : PE X (.Tuple vs k p) (liftE E w (eTup (evs CF gl es))) := peI (pe_tup (s_es es ok h)) fun _ _ _ => l_tup
    exact ⟨a, ptOf a rfl⟩
  | .dic false, X, w, ck, ok, x, h => by
    obtain ⟨p, rfl⟩ := i_dic h
    have a : PE X (.Dict [] [] p) (liftE E w (eDic false)) := peI pe_dnewK fun _ _ _ => l_dicK
    exact ⟨a, ptOf a rfl⟩
  | .dic true, X, w, ck, ok, x, h => by
    obtain ⟨p, rfl⟩ := i_dic h
    have a : PE X (.Dict [] [] p) (liftE E w (eDic true)) := peI pe_dnewT fun _ _ _ => l_dicT
    exact ⟨a, ptOf a rfl⟩
  | .ix a i, X, w, ck, ok, x, h => by
    obtain ⟨l, r, p, rfl, h1, h2, h3⟩ := i_ix h
    have a' : PE X (.Subscript l r p) (liftE E w (e2 ixS (ev CF gl a) (ev CF gl i))) := peI (pe_ix (l_ix ok.hK (by have := ok.hu; omega)) (s_e a ok h1).1 (s_e i ok h2).1 (plainIx_of h3)) fun _ _ _ => l_2
    exact ⟨a', ptOf a' rfl⟩
  | .sl a lo hi, X, w, ck, ok, x, h => by
    obtain ⟨l, l1, l2, q, p, rfl, h1, h2, h3⟩ := i_sl h
    have a' : PE X (.Subscript l (.Slice l1 l2 none q) p) (liftE E w (eSl (ev CF gl a) (evo CF gl lo) (evo CF gl hi))) := peI (pe_slice (l_sl ok.hK) (s_e a ok h1).1 (s_o lo ok h2) (s_o hi ok h3)) fun _ _ _ => l_sl3
    exact ⟨a', ptOf a' rfl⟩
  | .call f es, X, w, ck, ok, x, h => by
    obtain ⟨y, q, vs, p, rfl, h1, h2, h3, hh⟩ := i_call h
    have a' := s_call (q := q) (p := p) ok h2 (ok.fns hh f y h1) (s_es es ok h3) (chks_plain h3) (fun e => by subst e; cases es <;> first | rfl | exact ff h3)
    exact ⟨a', ptOf a' rfl⟩
  | .prim f es, X, w, ck, ok, x, h => by
    obtain ⟨q, v, vs, p, rfl, h1, h2, hh⟩ := i_prim h
    obtain ⟨g1, g2⟩ := ok.gl' h1
    have hp := chks_plain h2
    have a' : PE X (.Call (.Name (prOf f).1 q) (v :: vs) [] p) (liftE E w (eL (prS f) (evs CF gl es))) := by
      cases e : (prOf f).2 with
      | true =>
        obtain ⟨T, e1, e2⟩ := prim_ty f e
        exact peI (pe_callTy (pr_ty ok hh e2) g1 (ok.blt _ (prim_in f).1) e1 (s_es es ok h2) (prim_in f).2 g2 (star_plain (hp v List.mem_cons_self)) (star_any fun u hu => hp u (List.mem_cons_of_mem v hu))) fun _ _ _ => l_L
      | false =>
        obtain ⟨T, e1, e2⟩ := prim_bi f e
        exact peI (pe_callB (pr_bi ok hh e2) g1 (ok.blt _ (prim_in f).1) e1 (s_es es ok h2) (prim_in f).2 g2 (star_plain (hp v List.mem_cons_self)) (star_any fun u hu => hp u (List.mem_cons_of_mem v hu))) fun _ _ _ => l_L
    exact ⟨a', ptOf a' rfl⟩
  | .meth m o es, X, w, ck, ok, x, h => by
    obtain ⟨l, q, vs, p, rfl, h1, h2, h3, h4, h5⟩ := i_meth h
    have a' := s_meth ok m (p := p) h1 h2 h5 (s_e o ok h3).1 (s_es es ok h4) (chks_plain h4) (fun e => by subst e; cases es <;> first | rfl | exact ff h4)
    exact ⟨a', ptOf a' rfl⟩
  | .isi a T, X, w, ck, ok, x, h => by
    obtain ⟨q, l, q', p, rfl, h1, h2, h3, h4⟩ := i_isi h
    have hp : plainE l = true := by cases l <;> first | rfl | exact (chk_nostar _ _ _ h4).elim
    have a' := s_isi (q := q) (q' := q') (p := p) ok h1 h2 h3 hp (s_e a ok h4).1
    exact ⟨a', ptOf a' rfl⟩
  | .isx i y row, X, w, ck, ok, x, h => by
    obtain ⟨q, n, q1, q', p, rfl, h1, h2, h3, h4, h5⟩ := i_isx h
    have a' := s_isx (q := q) (q1 := q1) (q' := q') (p := p) ok h1 h2 h3 h4 h5
    exact ⟨a', ptOf a' rfl⟩
  | .isxs i ys, X, w, ck, ok, x, h => by
    obtain ⟨q, n, q1, es, k, q2, p, rfl, h1, h2, h3, h4, h5⟩ := i_isxs h
    have a' := s_isxs (q := q) (q1 := q1) (q2 := q2) (k := k) (p := p) ok h1 h2 h3 h4 h5
    exact ⟨a', ptOf a' rfl⟩
  | .xattr i f, X, w, ck, ok, x, h => by
    obtain ⟨n, q, p, rfl, h1, h2, h3⟩ := i_xattr h
    have a' := s_xattr (q := q) (p := p) ok h1 h2 h3
    exact ⟨a', ptOf a' rfl⟩
  | .hcall f es, X, w, ck, ok, x, h => by
    obtain ⟨y, q, v, vs, p, rfl, h1, h2, h3, hh, hd⟩ := i_hcall h
    have a' := s_hcall (q := q) (p := p) ok hh h2 (ok.hfn hd f y h1) (s_es es ok h3) (chks_plain h3)
    exact ⟨a', ptOf a' rfl⟩
  | .lc elt tg it c own, X, w, ck, ok, x, h => by
    obtain ⟨e, tg', it', ifs, scope, p, rfl, h1, h2, h3, h4, h5, h6, h7, h8, hh⟩ := i_lc h
    have hk := blk_kind h1
    have hb : BlkOk X.N X.env.scope scope (own.filterMap fun i => ck.N[i]?.map fun x => (x, i)) := by rw [ok.hN, ok.sc]; exact blkOk_by h1
    have a' : PE X (.ListComp e [⟨tg', it', ifs, 0⟩] scope p) (liftE E w (ev CF gl (.lc elt tg it c own))) := by
      refine peI (pe_lc (ok.calm hh) ok.nd' (s_i it ok tg' h5) hb (fun s H C cl fp => s_t (ok.blk hh s H scope hk C cl fp) h6) (fun s H C cl fp => s_c c (ok.blk hh s H scope hk C cl fp) h8)
        (fun s H C cl fp => (s_e elt (ok.blk hh s H scope hk C cl fp) h7).1) (fold_id (chki_noset h5))) fun σ H Q q => ?_
      rw [own_ix h3]
      exact l_lc h2 q
    exact ⟨a', ptOf a' rfl⟩
  | .lcK elt tg it c own, X, w, ck, ok, x, h => by
    obtain ⟨e, tg', it', ifs, scope, p, rfl, h1, h2, h3, h4, h5, h6, h7, h8, hh⟩ := i_lcK h
    have hk := blk_kind h1
    have hb : BlkOk X.N X.env.scope scope (own.filterMap fun i => ck.N[i]?.map fun x => (x, i)) := by rw [ok.hN, ok.sc]; exact blkOk_by h1
    have a' : PE X (.ListComp e [⟨tg', it', ifs, 0⟩] scope p) (liftE E w (ev CF gl (.lcK elt tg it c own))) := by
      refine peI (pe_unl (pe_lc (ok.calm hh) ok.nd' (s_i it ok tg' h5) hb (fun s H C cl fp => s_t (ok.blk hh s H scope hk C cl fp) h6) (fun s H C cl fp => s_c c (ok.blk hh s H scope hk C cl fp) h8)
        (fun s H C cl fp => (s_e elt (ok.blk hh s H scope hk C cl fp) h7).1) (fold_id (chki_noset h5)))) fun σ H Q q => ?_
      rw [own_ix h3]
      exact l_lcK h2 q
    exact ⟨a', ptOf a' rfl⟩
  | .dget1 o e, X, w, ck, ok, x, h => by
    obtain ⟨l, q, v, p, rfl, h1, h2, h3, h4, h5⟩ := i_dget1 h
    have a' : PE X (.Call (.Attribute l "get" q) [v] [] p) (liftE E w (ev CF gl (.dget1 o e))) := peI (pe_dget1 (by have := ok.hu; omega) (s_e o ok h3).1 (s_e e ok h4).1 (m1_of X h1 h2 h5)) fun _ _ _ => l_dget1
    exact ⟨a', ptOf a' rfl⟩
  | .dpop1 o e, X, w, ck, ok, x, h => by
    obtain ⟨l, q, v, p, rfl, h1, h2, h3, h4, h5⟩ := i_dpop1 h
    have a' : PE X (.Call (.Attribute l "pop" q) [v] [] p) (liftE E w (ev CF gl (.dpop1 o e))) := peI (pe_dpop1 (s_e o ok h3).1 (s_e e ok h4).1 (m1_of X h1 h2 h5)) fun _ _ _ => l_dpop1
    exact ⟨a', ptOf a' rfl⟩
  | .dget2 o e d, X, w, ck, ok, x, h => by
    obtain ⟨l, q, v, u, p, rfl, h1, h2, h3, h4, h5, h6, h7⟩ := i_dget2 h
    have a' : PE X (.Call (.Attribute l "get" q) [v, u] [] p) (liftE E w (ev CF gl (.dget2 o e d))) := peI (pe_dget2 (by have := ok.hu; omega) (s_e o ok h3).1 (s_e e ok h4).1 (s_e d ok h5).1 (m2_of X h1 h2 h6 h7)) fun _ _ _ => l_dget2
    exact ⟨a', ptOf a' rfl⟩
  | .dsetd o e d, X, w, ck, ok, x, h => by
    obtain ⟨l, q, v, u, p, rfl, h1, h2, h3, h4, h5, h6, h7⟩ := i_dsetd h
    have a' : PE X (.Call (.Attribute l "setdefault" q) [v, u] [] p) (liftE E w (ev CF gl (.dsetd o e d))) := peI (pe_dsetd (s_e o ok h3).1 (s_e e ok h4).1 (s_e d ok h5).1 (m2_of X h1 h2 h6 h7)) fun _ _ _ => l_dsetd
    exact ⟨a', ptOf a' rfl⟩
  | .dpop2 o e d, X, w, ck, ok, x, h => by
    obtain ⟨l, q, v, u, p, rfl, h1, h2, h3, h4, h5, h6, h7⟩ := i_dpop2 h
    have a' : PE X (.Call (.Attribute l "pop" q) [v, u] [] p) (liftE E w (ev CF gl (.dpop2 o e d))) := peI (pe_dpop2 (s_e o ok h3).1 (s_e e ok h4).1 (s_e d ok h5).1 (m2_of X h1 h2 h6 h7)) fun _ _ _ => l_dpop2
    exact ⟨a', ptOf a' rfl⟩
  | .lrev a, X, w, ck, ok, x, h => by
    obtain ⟨q, q2, v, p2, p, rfl, h1, h2, h3, h4, hh⟩ := i_lrev h
    obtain ⟨g1, g2⟩ := ok.gl' h1
    obtain ⟨g3, g4⟩ := ok.gl' h2
    have a' : PE X (.Call (.Name "list" q) [.Call (.Name "reversed" q2) [v] [] p2] [] p) (liftE E w (ev CF gl (.lrev a))) := peI (pe_lstRev (ok.calm hh) g1 (ok.blt _ (by decide +kernel)) g3 (ok.blt _ (by decide +kernel)) (s_e a ok h3).1 (star_plain h4)) fun _ _ _ => l_lrev ok.hK
    exact ⟨a', ptOf a' rfl⟩
  | .mxd mn a d, X, w, ck, ok, x, h => by
    obtain ⟨q, v, u, kp, p, rfl, h1, h2, h3, h4, hh⟩ := i_mxd h
    obtain ⟨g1, g2⟩ := ok.gl' h1
    have a' : PE X (.Call (.Name (if mn = true then ("min" : Str) else ("max" : Str)) q) [v] [⟨some "default", u, kp⟩] p) (liftE E w (ev CF gl (.mxd mn a d))) := pe_mxd ok.hK (ok.calm hh) (by have := ok.hu; omega) g1 (ok.blt _ (by cases mn <;> decide +kernel)) (s_e a ok h2).1 (s_e d ok h3).1 (star_plain h4)
    exact ⟨a', ptOf a' rfl⟩
  | .lset a, X, w, ck, ok, x, h => by
    obtain ⟨q, q2, v, p2, p, rfl, h1, h2, h3, h4, hh⟩ := i_lset h
    obtain ⟨g1, g2⟩ := ok.gl' h1
    obtain ⟨g3, g4⟩ := ok.gl' h2
    have a' : PE X (.Call (.Name "len" q) [.Call (.Name "set" q2) [v] [] p2] [] p) (liftE E w (ev CF gl (.lset a))) := pe_lset ok.hK (ok.calm hh) g1 (ok.blt _ (by decide +kernel)) g3 (ok.blt _ (by decide +kernel)) (s_e a ok h3).1 (star_plain h4)
    exact ⟨a', ptOf a' rfl⟩
  | .sset a, X, w, ck, ok, x, h => by
    obtain ⟨q, q2, v, p2, p, rfl, h1, h2, h3, h4, hh⟩ := i_sset h
    obtain ⟨g1, g2⟩ := ok.gl' h1
    obtain ⟨g3, g4⟩ := ok.gl' h2
    have a' : PE X (.Call (.Name "sorted" q) [.Call (.Name "set" q2) [v] [] p2] [] p) (liftE E w (ev CF gl (.sset a))) := pe_sset ok.hK (ok.calm hh) (by have := ok.hu; omega) g1 (ok.blt _ (by decide +kernel)) g3 (ok.blt _ (by decide +kernel)) (s_e a ok h3).1 (star_plain h4)
    exact ⟨a', ptOf a' rfl⟩
  | .dic2 k v k2 v2, X, w, ck, ok, x, h => by
    obtain ⟨a, b, a2, b2, p, rfl, h1, h2, h3, h4⟩ := i_dic2 h
    have a' : PE X (.Dict [some a, some a2] [b, b2] p) (liftE E w (ev CF gl (.dic2 k v k2 v2))) := peI (pe_disp (pps_cons (s_e k ok h1).1 (s_e v ok h2).1 (pps_cons (s_e k2 ok h3).1 (s_e v2 ok h4).1 pps_nil)) rfl rfl (by simp) (Nat.le_of_ble_eq_true rfl)) fun _ _ _ => l_dic2
    exact ⟨a', ptOf a' rfl⟩
  | .dic1 k v, X, w, ck, ok, x, h => by
    obtain ⟨a, b, p, rfl, h1, h2⟩ := i_dic1 h
    have a' : PE X (.Dict [some a] [b] p) (liftE E w (ev CF gl (.dic1 k v))) := peI (pe_disp (pps_cons (s_e k ok h1).1 (s_e v ok h2).1 pps_nil) rfl rfl (by simp) (Nat.le_of_ble_eq_true rfl)) fun _ _ _ => l_dic1
    exact ⟨a', ptOf a' rfl⟩
  | .frz e, X, w, ck, ok, x, h => by
    obtain ⟨h1, h2⟩ := i_frz h
    have a' : PE X x (liftE E w (ev CF gl (.frz e))) := peI (pe_lk (s_e e ok h2).1) fun _ _ _ => l_frz
    exact ⟨a', ptOf a' h1⟩
  | .attr o f, X, w, ck, ok, x, h => by
    obtain ⟨l, p, rfl, h1, h2, h3⟩ := i_attr h
    have a' : PE X (.Attribute l f p) (liftE E w (ev CF gl (.attr o f))) := s_attr ok h1 h2 (s_e o ok h3).1
    exact ⟨a', ptOf a' rfl⟩
  | .mcall o m es, X, w, ck, ok, x, h => by
    obtain ⟨l, q, vs, p, rfl, h1, h2, h3, h4, h5, h6, hh⟩ := i_mcall h
    have a' : PE X (.Call (.Attribute l m q) vs [] p) (liftE E w (ev CF gl (.mcall o m es))) := s_mcall ok hh h1 h2 h3 h6 (s_e o ok h4).1 (s_es es ok h5) (chks_plain h5) (fun e => by subst e; cases es <;> first | rfl | exact ff h5)
    exact ⟨a', ptOf a' rfl⟩
  | .new c f es, X, w, ck, ok, x, h => by
    obtain ⟨y, q, vs, p, oc, rfl, h1, h2, h3, h4, h5, hh⟩ := i_new h
    have a' : PE X (.Call (.Name y q) vs [] p) (liftE E w (ev CF gl (.new c f es))) := by
      exact s_new (q := q) (p := p) ok hh h1 h2 h3 h4 (s_es es ok h5) (chks_plain h5) (fun e => by subst e; cases es <;> first | rfl | exact ff h5)
    exact ⟨a', ptOf a' rfl⟩
  | .fmt e, X, w, ck, ok, x, h => by
    obtain ⟨v, p, rfl, h1⟩ := i_fmt h
    have a' : PE X (.FormattedValue v (-1) none p) (liftE E w (ev CF gl (.fmt e))) := peI (pe_fmt (s_e e ok h1).1) fun _ _ _ => l_fmt
    exact ⟨a', ptOf a' rfl⟩
  | .fstr es, X, w, ck, ok, x, h => by
    obtain ⟨v1, v2, vs, p, rfl, h1⟩ := i_fstr h
    obtain ⟨ts, j, k⟩ := s_ef es ok h1
    have a' : PE X (.JoinedStr (v1 :: v2 :: vs) p) (liftE E w (ev CF gl (.fstr es))) := peI (pe_joined j) fun σ H Q h => by
      obtain ⟨s, g, q, x, hs, hg, h, kq, kx⟩ := h
      exact k Str.empty σ H (fun out H1 => Q (.str out) H1) s g _ x hs hg h (fun w g1 v H1 hg1 r f1 h1 y ey => by subst ey; rw [RV] at r; exact kq _ g1 _ H1 hg1 rv_str f1 h1) kx
    exact ⟨a', ptOf a' rfl⟩
  | .nev, X, w, ck, ok, x, h => by
    have a' : PE X x (liftE E w (ev CF gl .nev)) := ⟨fun pins s σ H Q I h => by obtain ⟨_, _, _, _, _, _, h, _⟩ := h; exact h.elim⟩
    exact ⟨a', ptOf a' (i_nev h).1⟩
  | .ccall c f m es, X, w, ck, ok, x, h => by
    obtain ⟨y, q, apos, v, vs, p, oc, rfl, h1, h2, h3, h4, h5, h6, h7, hh⟩ := i_ccall h
    subst h2 h3
    have a' : PE X (.Call (.Attribute (.Name oc.name q) "__init__" apos) (v :: vs) [] p) (liftE E w (ev CF gl (.ccall c oc.init m es))) := s_ccall ok hh h1 h4 h5 h7 (s_es es ok h6) (chks_plain h6)
    exact ⟨a', ptOf a' rfl⟩
  | .isc a y row, X, w, ck, ok, x, h => by
    obtain ⟨q, l, q', p, rfl, h1, h2, h3, h4⟩ := i_isc h
    have hp : plainE l = true := by cases l <;> first | rfl | exact (chk_nostar _ _ _ h4).elim
    have a' : PE X (.Call (.Name "isinstance" q) [l, .Name y q'] [] p) (liftE E w (ev CF gl (.isc a y row))) := s_isc ok h1 h2 h3 hp (s_e a ok h4).1
    exact ⟨a', ptOf a' rfl⟩
theorem s_ef : ∀ (es : Es3) {X : Cx} {w : WX} {ck : Ck}, CkOk ck X E w CF gl → ∀ {vs : List Expr}, chkf es ck vs = true → ∃ ts, PJ X vs ts ∧ ∀ (acc : Str) (σ : L2.St) (H : Hp) (Q : Str → Hp → Prop) (s : Sx) (g : G) (q : VK3) (x : XK3), SR E.K H s σ → GR E g H → evf CF gl es acc x s g q →
    (∀ w g1 v H1, GR E g1 H1 → RV E.K H1 w v → FK g H g1 H1 → q w g1 → ∀ y, w = .str y → Q y H1) → KX E g H x (fun cls d H' => w cls d σ H') → tJs ts acc σ H Q
  | .nil, X, w, ck, ok, [], h => ⟨[], .nil, fun acc σ H Q s g q x hs hg h kq kx => kq _ g (.str acc) H hg rv_str FK.refl h acc rfl⟩
  | .nil, X, w, ck, ok, _ :: _, h => ff h
  | .cons e es, X, w, ck, ok, [], h => ff h
  | .cons e es, X, w, ck, ok, v :: vs, h => by
    obtain ⟨h1, h2⟩ := bool_and h
    obtain ⟨ts, j, k⟩ := s_ef es ok h2
    refine ⟨_, .cons (s_e e ok h1).1 j, fun acc σ H Q s g q x hs hg h kq kx => ?_⟩
    refine ⟨s, g, _, x, hs, hg, h, fun a g1 v H1 hg1 ra f1 h1 => ?_, kx⟩
    obtain ⟨y, rfl, hy, h1⟩ := h1
    rw [RV] at ra
    exact ⟨y, ra, hy, k _ σ H1 Q s g1 q x (hs.keep (f1.tk hg)) hg1 h1 (fun w g2 v H2 a b c d => kq w g2 v H2 a b (f1.trans c) d) (kx.at f1)⟩
theorem s_es : ∀ (es : Es3) {X : Cx} {w : WX} {ck : Ck}, CkOk ck X E w CF gl → ∀ {vs : List Expr}, chks es ck vs = true → PA X vs (liftA E w (evs CF gl es))
  | .nil, X, w, ck, ok, [], h => paI pa_nil fun _ _ _ => l_nil
  | .nil, X, w, ck, ok, _ :: _, h => ff h
  | .cons e es, X, w, ck, ok, [], h => ff h
  | .cons e es, X, w, ck, ok, v :: vs, h => by
    obtain ⟨h12, h3⟩ := bool_and h
    obtain ⟨h1, h2⟩ := bool_and h12
    exact paI (pa_cons (s_e e ok h2).1 (s_es es ok h3) (star_plain h1)) fun _ _ _ => l_cons
theorem s_and : ∀ (es : Es3) {X : Cx} {w : WX} {ck : Ck}, CkOk ck X E w CF gl → ∀ {vs : List Expr}, chks es ck vs = true → ∀ p, PE X (.BoolOp .And vs p) (liftE E w (evAnd CF gl es)) ∧ PW X (.BoolOp .And vs p) (liftT E w (bT (evAnd CF gl es)))
  | .nil, X, w, ck, ok, vs, h, p => ⟨⟨fun _ _ _ _ _ _ q => by obtain ⟨_, _, _, _, _, _, q, _⟩ := q; exact q.elim⟩, ⟨fun _ _ _ _ _ _ _ q => by obtain ⟨_, _, _, _, _, _, q, _⟩ := q; exact q.elim⟩⟩
  | .cons e es, X, w, ck, ok, [], h, p => ff h
  | .cons e .nil, X, w, ck, ok, v :: vs, h, p => by
    obtain ⟨h12, h3⟩ := bool_and h
    obtain ⟨h1, h2⟩ := bool_and h12
    cases vs with
    | nil => exact ⟨pe_one (s_e e ok h2).1, pw_and1 (s_e e ok h2).2⟩
    | cons a b => exact ff h3
  | .cons e (.cons e' es), X, w, ck, ok, [v], h, p => by
    obtain ⟨h12, h3⟩ := bool_and h
    exact ff h3
  | .cons e (.cons e' es), X, w, ck, ok, v :: v' :: vs, h, p => by
    obtain ⟨h12, h3⟩ := bool_and h
    obtain ⟨h1, h2⟩ := bool_and h12
    obtain ⟨a, b⟩ := s_and (.cons e' es) ok h3 p
    exact ⟨peI (pe_and (s_e e ok h2).1 a) fun _ _ _ => l_andV, pwI (pw_and (s_e e ok h2).2 b) fun _ _ _ => l_andT⟩
theorem s_or : ∀ (es : Es3) {X : Cx} {w : WX} {ck : Ck}, CkOk ck X E w CF gl → ∀ {vs : List Expr}, chks es ck vs = true → ∀ p, PE X (.BoolOp .Or vs p) (liftE E w (evOr CF gl es)) ∧ PW X (.BoolOp .Or vs p) (liftT E w (bT (evOr CF gl es)))
  | .nil, X, w, ck, ok, vs, h, p => ⟨⟨fun _ _ _ _ _ _ q => by obtain ⟨_, _, _, _, _, _, q, _⟩ := q; exact q.elim⟩, ⟨fun _ _ _ _ _ _ _ q => by obtain ⟨_, _, _, _, _, _, q, _⟩ := q; exact q.elim⟩⟩
  | .cons e es, X, w, ck, ok, [], h, p => ff h
  | .cons e .nil, X, w, ck, ok, v :: vs, h, p => by
    obtain ⟨h12, h3⟩ := bool_and h
    obtain ⟨h1, h2⟩ := bool_and h12
    cases vs with
    | nil => exact ⟨pe_one (s_e e ok h2).1, pw_or1 (s_e e ok h2).2⟩
    | cons a b => exact ff h3
  | .cons e (.cons e' es), X, w, ck, ok, [v], h, p => by
    obtain ⟨h12, h3⟩ := bool_and h
    exact ff h3
  | .cons e (.cons e' es), X, w, ck, ok, v :: v' :: vs, h, p => by
    obtain ⟨h12, h3⟩ := bool_and h
    obtain ⟨h1, h2⟩ := bool_and h12
    obtain ⟨a, b⟩ := s_or (.cons e' es) ok h3 p
    exact ⟨peI (pe_or (s_e e ok h2).1 a) fun _ _ _ => l_orV, pwI (pw_or (s_e e ok h2).2 b) fun _ _ _ => l_orT⟩
theorem s_o : ∀ (o : O3) {X : Cx} {w : WX} {ck : Ck}, CkOk ck X E w CF gl → ∀ {x : Option Expr}, chko o ck x = true → PO X x (liftO E w (evo CF gl o))
  | .none, X, w, ck, ok, none, h => po_I po_none fun σ H Q q => by
    obtain ⟨s, g, k, x, hs, hg, h, kq, kx⟩ := q
    exact kq none g H hg FK.refl h
  | .none, X, w, ck, ok, some _, h => ff h
  | .some e, X, w, ck, ok, none, h => ff h
  | .some e, X, w, ck, ok, some v, h => po_I (po_some (s_e e ok h).1) fun σ H Q q => by
    obtain ⟨s, g, k, x, hs, hg, h, kq, kx⟩ := q
    refine ⟨s, g, _, x, hs, hg, h, fun a g1 v H1 hg1 ra f1 h1 => ?_, kx⟩
    obtain ⟨i, rfl, h1⟩ := h1
    rw [RV] at ra
    exact ⟨i, ra, kq (some i) g1 H1 hg1 f1 h1⟩
theorem s_c : ∀ (o : O3) {X : Cx} {w : WX} {ck : Ck}, CkOk ck X E w CF gl → ∀ {x : List Expr}, chkc o ck x = true → PTs X x (liftT E w (evc CF gl o))
  | .none, X, w, ck, ok, [], h => pts_I pts_nil fun σ H Q q => by
    obtain ⟨s, g, k, x, hs, hg, h, kq, kx⟩ := q
    exact kq true g H hg FK.refl h
  | .none, X, w, ck, ok, _ :: _, h => ff h
  | .some e, X, w, ck, ok, [], h => ff h
  | .some e, X, w, ck, ok, [v], h => pts_one (s_e e ok h).2
  | .some e, X, w, ck, ok, _ :: _ :: _, h => ff h
theorem s_i : ∀ (it : I3) {X : Cx} {w : WX} {ck : Ck}, CkOk ck X E w CF gl → ∀ (tg : Expr) {x : Expr}, chki it ck (isTupE tg) x = true → PI X tg x (liftI E w (evi CF gl it))
  | .seq e, X, w, ck, ok, tg, x, h => by
    have h' : chk e ck x = true := by cases x <;> exact h
    refine piI (pi_sq (s_e e ok h').1) fun σ H R q => ?_
    obtain ⟨s, g, r, x, hs, hg, h, kr, kx⟩ := q
    refine ⟨s, g, _, x, hs, hg, h, fun a g1 v H1 hg1 ra f1 h1 => ?_, kx⟩
    cases a with
    | ref p =>
      rw [RV] at ra; subst ra
      obtain ⟨xs, e1, h1⟩ := lstAt_inv h1
      obtain ⟨ys, q1, r1⟩ := hg1 _ _ e1
      exact .inl ⟨p, rfl, ⟨ys, SqL.of q1⟩, kr xs _ g1 _ H1 hg1 f1 (it_list ok.hK) h1⟩
    | tup xs =>
      obtain ⟨p, ys, rfl, ht, hr⟩ := rv_tup_inv ra
      exact .inr ⟨p, rfl, ⟨ys, SqT.of ht⟩, kr xs _ g1 _ H1 hg1 f1 (it_tup hg1 ht hr) h1⟩
    | scr xs =>
      obtain ⟨p, ys, rfl, ht, hr⟩ := rv_scr_inv ra
      rw [ok.hK]
      exact .inl ⟨p, rfl, ⟨ys, ht.sq⟩, kr xs _ g1 _ H1 hg1 f1 (it_scr hg1 ht hr) h1⟩
    | lv xs =>
      obtain ⟨p, ys, rfl, ht, hr⟩ := rv_lv_inv ra
      rw [ok.hK]
      exact .inl ⟨p, rfl, ⟨ys, ht.sq⟩, kr xs _ g1 _ H1 hg1 f1 (it_scr hg1 ht hr) h1⟩
    | _ => exact h1.elim
  | .rng1 a, X, w, ck, ok, tg, x, h => by
    obtain ⟨q, v, p, rfl, h1, h2, h3, _⟩ := i_1 (.inl ⟨rfl, rfl⟩) h
    obtain ⟨g1, g2⟩ := ok.gl' h1
    refine piI (pi_range1 g1 (ok.blt _ (by decide +kernel)) (pa_cons (s_e a ok h2).1 pa_nil (star_plain h3)) (star_plain h3)) fun σ H R q => ?_
    obtain ⟨s, g, r, x, hs, hg, h, kr, kx⟩ := q
    refine ⟨s, g, _, x, hs, hg, h, fun a g1 v H1 hg1 ra f1 h1 => ?_, kx⟩
    obtain ⟨j, rfl, hj, h1⟩ := h1
    rw [RV] at ra
    subst ra
    exact ⟨j, rfl, hj.1, hj.2, kr _ _ g1 _ H1 hg1 f1 it_rng h1⟩
  | .rng2 a b, X, w, ck, ok, tg, x, h => by
    obtain ⟨q, v, u, p, rfl, h1, h2, h3, h4, h5, _⟩ := i_2 (.inl ⟨rfl, rfl⟩) h
    obtain ⟨g1, g2⟩ := ok.gl' h1
    refine piI (pi_range2 g1 (ok.blt _ (by decide +kernel)) (pa_cons (s_e a ok h2).1 (pa_cons (s_e b ok h3).1 pa_nil (star_plain h5)) (star_plain h4)) ((star_plain h4).trans (congrArg _ (star_plain h5))) (star_plain h5)) fun σ H R q => ?_
    obtain ⟨s, g, r, x, hs, hg, h, kr, kx⟩ := q
    refine ⟨s, g, _, x, hs, hg, h, fun a g1 v H1 hg1 ra f1 h1 => ?_, kx⟩
    refine ⟨s, g1, _, x, hs.keep (f1.tk hg), hg1, h1, fun b g2 u H2 hg2 rb f2 h2 => ?_, kx.at f1⟩
    obtain ⟨i, j, rfl, rfl, hi, hj, h2⟩ := h2
    rw [RV] at ra rb
    subst ra rb
    exact ⟨i, j, rfl, ⟨hi.1, hi.2, hj.1, hj.2⟩, kr _ _ g2 _ H2 hg2 (f1.trans f2) it_rng h2⟩
  | .rng3 a b c, X, w, ck, ok, tg, x, h => by
    obtain ⟨q, v, u, y, p, rfl, h1, h2, h3, h4, h5, h6, h7⟩ := i_3 h
    obtain ⟨g1, g2⟩ := ok.gl' h1
    refine piI (pi_range3 g1 (ok.blt _ (by decide +kernel)) (pa_cons (s_e a ok h2).1 (pa_cons (s_e b ok h3).1 (pa_cons (s_e c ok h4).1 pa_nil (star_plain h7)) (star_plain h6)) (star_plain h5)) (star_plain h5) (star_any fun v hv => by rcases List.mem_cons.mp hv with rfl | hv; exact h6; rw [List.mem_singleton.mp hv]; exact h7)) fun σ H R q => ?_
    obtain ⟨s, g, r, x, hs, hg, h, kr, kx⟩ := q
    refine ⟨s, g, _, x, hs, hg, h, fun a g1 v H1 hg1 ra f1 h1 => ?_, kx⟩
    refine ⟨s, g1, _, x, hs.keep (f1.tk hg), hg1, h1, fun b g2 u H2 hg2 rb f2 h2 => ?_, kx.at f1⟩
    refine ⟨s, g2, _, x, (hs.keep (f1.tk hg)).keep (f2.tk hg1), hg2, h2, fun c g3 y H3 hg3 rc f3 h3 => ?_, (kx.at f1).at f2⟩
    obtain ⟨i, j, rfl, rfl, rfl, hi, hj, h3⟩ := h3
    rw [RV] at ra rb rc
    subst ra rb rc
    exact ⟨i, j, -1, _, rfl, RgC.neg hi.1 hi.2 hj.1 hj.2, kr _ _ g3 _ H3 hg3 ((f1.trans f2).trans f3) it_rngD h3⟩
  | .str e, X, w, ck, ok, tg, x, h => by
    have h' : chk e ck x = true := by cases x <;> exact h
    refine piI (pi_str (s_e e ok h').1) fun σ H R q => ?_
    obtain ⟨s, g, r, x, hs, hg, h, kr, kx⟩ := q
    refine ⟨s, g, _, x, hs, hg, h, fun a g1 v H1 hg1 ra f1 h1 => ?_, kx⟩
    obtain ⟨z, rfl, h1⟩ := h1
    rw [RV] at ra
    exact ⟨z, ra, kr _ _ g1 _ H1 hg1 f1 it_str h1⟩
  | .rev e, X, w, ck, ok, tg, x, h => by
    obtain ⟨q, v, p, rfl, h1, h2, h3, _⟩ := i_1 (.inr (.inl ⟨rfl, rfl⟩)) h
    obtain ⟨g1, g2⟩ := ok.gl' h1
    refine piI (RT.pi_revA g1 (ok.blt _ (by decide +kernel)) (s_e e ok h2).1 (star_plain h3)) fun σ H R q => ?_
    obtain ⟨s, g, r, x, hs, hg, h, kr, kx⟩ := q
    refine ⟨s, g, _, x, hs, hg, h, fun a g1 v H1 hg1 ra f1 h1 => ?_, kx⟩
    cases a with
    | ref p =>
      rw [RV] at ra; subst ra
      obtain ⟨xs, e1, h1⟩ := lstAt_inv h1
      obtain ⟨ys, q1, r1⟩ := hg1 _ _ e1
      refine ⟨p, ys, rfl, .inl ⟨SqL.of q1, ?_⟩⟩
      rw [r1.length]
      exact kr _ _ g1 _ H1 hg1 f1 it_revL h1
    | tup xs =>
      obtain ⟨p, ys, rfl, ht, hr⟩ := rv_tup_inv ra
      refine ⟨p, ys, rfl, .inr ⟨SqT.of ht, ?_⟩⟩
      rw [hr.length]
      exact kr _ _ g1 _ H1 hg1 f1 (it_revT hg1 ht hr) h1
    | scr xs =>
      obtain ⟨p, ys, rfl, ht, hr⟩ := rv_scr_inv ra
      rw [ok.hK]
      refine ⟨p, ys, rfl, .inl ⟨ht.sq, ?_⟩⟩
      rw [hr.length]
      exact kr _ _ g1 _ H1 hg1 f1 (it_revS hg1 ht hr) h1
    | lv xs =>
      obtain ⟨p, ys, rfl, ht, hr⟩ := rv_lv_inv ra
      rw [ok.hK]
      refine ⟨p, ys, rfl, .inl ⟨ht.sq, ?_⟩⟩
      rw [hr.length]
      exact kr _ _ g1 _ H1 hg1 f1 (it_revS hg1 ht hr) h1
    | _ => exact h1.elim
  | .enum e, X, w, ck, ok, tg, x, h => by
    obtain ⟨q, v, p, rfl, h1, h2, h3, h4⟩ := i_1 (.inr (.inr ⟨rfl, rfl⟩)) h
    obtain ⟨es, k, pt, rfl⟩ := isTup_inv (h4 rfl)
    obtain ⟨g1, g2⟩ := ok.gl' h1
    refine piI (pi_enum g1 (ok.blt _ (by decide +kernel)) (pa_cons (s_e e ok h2).1 pa_nil (star_plain h3)) (star_plain h3)) fun σ H R q => ?_
    obtain ⟨s, g, r, x, hs, hg, h, kr, kx⟩ := q
    refine ⟨s, g, _, x, hs, hg, h, fun a g1 v H1 hg1 ra f1 h1 => ?_, kx⟩
    cases a with
    | ref p =>
      rw [RV] at ra; subst ra
      obtain ⟨xs, e1, h1⟩ := lstAt_inv h1
      obtain ⟨ys, q1, r1⟩ := hg1 _ _ e1
      exact ⟨p, ys, rfl, SqL.of q1, kr _ _ g1 _ H1 hg1 f1 (it_enum (ok := fun g' => g' p = some (.lst xs)) fun g3 H3 hg3 f3 ok3 => let ⟨zs, z1, z2⟩ := hg3 _ _ ok3; ⟨zs, SqL.of z1, z2⟩) h1⟩
    | scr xs =>
      obtain ⟨p, ys, rfl, ht, hr⟩ := rv_scr_inv ra
      rw [ok.hK]
      exact ⟨p, ys, rfl, ht.sq, kr _ _ g1 _ H1 hg1 f1 (it_enum fun g3 H3 hg3 f3 ok3 => ⟨ys, ((f3.tk hg1).frl ht).sq, hr.keep (f3.tk hg1)⟩) h1⟩
    | lv xs =>
      obtain ⟨p, ys, rfl, ht, hr⟩ := rv_lv_inv ra
      rw [ok.hK]
      exact ⟨p, ys, rfl, ht.sq, kr _ _ g1 _ H1 hg1 f1 (it_enum fun g3 H3 hg3 f3 ok3 => ⟨ys, ((f3.tk hg1).frl ht).sq, hr.keep (f3.tk hg1)⟩) h1⟩
    | _ => exact h1.elim
  | .keys e, X, w, ck, ok, tg, x, h => by
    have h' : chk e ck x = true := by cases x <;> exact h
    exact piI (pi_keys (pe_lk (s_e e ok h').1)) fun _ _ _ => l_keys
  | .items e, X, w, ck, ok, tg, x, h => by
    obtain ⟨l, q, p, rfl, h1, h2, h3, h4⟩ := i_items h
    obtain ⟨es, k, pt, rfl⟩ := isTup_inv h1
    exact piI (pi_items (pe_lk (s_e e ok h4).1) (base_plain h2) h3) fun _ _ _ => l_items
  | .zip a b, X, w, ck, ok, tg, x, h => by
    obtain ⟨q, v, u, p, rfl, h1, h2, h3, h4, h5, h6⟩ := i_2 (.inr ⟨rfl, rfl⟩) h
    obtain ⟨es, k, pt, rfl⟩ := isTup_inv (h6 rfl)
    obtain ⟨g1, g2⟩ := ok.gl' h1
    refine piI (pi_zip g1 (ok.blt _ (by decide +kernel)) (pa_cons (s_e a ok h2).1 (pa_cons (s_e b ok h3).1 pa_nil (star_plain h5)) (star_plain h4)) (star_plain h4) (star_any fun z hz => by rw [List.mem_singleton.mp hz]; exact h5)) fun σ H R q => ?_
    obtain ⟨s, g, r, x, hs, hg, h, kr, kx⟩ := q
    refine ⟨s, g, _, x, hs, hg, h, fun a g1 v H1 hg1 ra f1 h1 => ?_, kx⟩
    refine ⟨s, g1, _, x, hs.keep (f1.tk hg), hg1, h1, fun b g2 u H2 hg2 rb f2 h2 => ?_, kx.at f1⟩
    have ra2 := ra.keep (f2.tk hg1)
    have rd : ∀ {a : W} {v : V} {r : List W → (G → Prop) → G → Prop}, RV E.K H2 a v → walkL a g2 r → ∃ p xs ys ok, v = .ref p ∧ SqL X.K H2 p ys ∧ RVs E.K H2 xs ys ∧ r xs ok g2 ∧ ∀ g3 H3, GR E g3 H3 → FK g2 H2 g3 H3 → ok g3 → ∃ zs, SqL X.K H3 p zs ∧ RVs E.K H3 xs zs := by
      intro a v r ra h
      cases a with
      | ref p =>
        rw [RV] at ra; subst ra
        obtain ⟨xs, e1, h⟩ := lstAt_inv h
        obtain ⟨ys, q1, r1⟩ := hg2 _ _ e1
        exact ⟨p, xs, ys, fun g' => g' p = some (.lst xs), rfl, SqL.of q1, r1, h, fun g3 H3 hg3 f3 ok3 => let ⟨zs, z1, z2⟩ := hg3 _ _ ok3; ⟨zs, SqL.of z1, z2⟩⟩
      | scr xs =>
        obtain ⟨p, ys, rfl, ht, hr⟩ := rv_scr_inv ra
        rw [ok.hK]
        exact ⟨p, xs, ys, _, rfl, ht.sq, hr, h, fun g3 H3 hg3 f3 ok3 => ⟨ys, ((f3.tk hg2).frl ht).sq, hr.keep (f3.tk hg2)⟩⟩
      | lv xs =>
        obtain ⟨p, ys, rfl, ht, hr⟩ := rv_lv_inv ra
        rw [ok.hK]
        exact ⟨p, xs, ys, _, rfl, ht.sq, hr, h, fun g3 H3 hg3 f3 ok3 => ⟨ys, ((f3.tk hg2).frl ht).sq, hr.keep (f3.tk hg2)⟩⟩
      | _ => exact h.elim
    obtain ⟨p1, xs, ys, k1, rfl, s1, r1, h2, d1⟩ := rd ra2 h2
    obtain ⟨p2, xs2, ys2, k2, rfl, s2, r2, h2, d2⟩ := rd rb h2
    exact ⟨p1, p2, ys, ys2, rfl, s1, s2, kr _ _ g2 _ H2 hg2 (f1.trans f2) (it_zip fun g3 H3 hg3 f3 ok3 => ⟨d1 g3 H3 hg3 f3 ok3.1, d2 g3 H3 hg3 f3 ok3.2⟩) h2⟩
end
end
end L3
set_option maxRecDepth 100000
set_option maxHeartbeats 16000000
namespace L3
open PySem PySem.Spec L2
section
variable {X : Cx} {E : Env3} {w : WX} {CF : CF3} {gl : Gs} {ck : Ck}
theorem l_ret {te : TE3} {D : Ends} {σ : L2.St} {H : Hp} (h : liftS E w (fun D s g => te (D.xk s) s g D.rt) D σ H) : tRet (liftE E w te) D σ H := by
  obtain ⟨s, g, d, hs, hg, h, kd⟩ := h
  exact ⟨s, g, _, _, hs, hg, h, kd.rt, kd.xk hs hg⟩
theorem l_drop {te : TE3} {D : Ends} {σ : L2.St} {H : Hp} (h : liftS E w (fun D s g => te (D.xk s) s g fun _ g1 => D.nx s g1) D σ H) : tDrop (liftE E w te) D σ H := by
  obtain ⟨s, g, d, hs, hg, h, kd⟩ := h
  exact ⟨s, g, _, _, hs, hg, h, fun a g1 v H1 hg1 ra f1 h1 => kd.nx s g1 σ H1 (hs.keep (f1.tk hg)) hg1 f1 h1, kd.xk hs hg⟩
theorem l_set {te : TE3} {i : Nat} {D : Ends} {σ : L2.St} {H : Hp} (h : liftS E w (fun D s g => te (D.xk s) s g fun a g1 => D.nx (s.set i (some a)) g1) D σ H) : tAsg (liftE E w te) (gName i) D σ H := by
  obtain ⟨s, g, d, hs, hg, h, kd⟩ := h
  exact ⟨s, g, _, _, hs, hg, h, fun a g1 v H1 hg1 ra f1 h1 => kd.nx _ g1 _ H1 ((hs.keep (f1.tk hg)).set ra i) hg1 f1 h1, kd.xk hs hg⟩
theorem l_setT {te : TE3} {is : List Nat} {D : Ends} {σ : L2.St} {H : Hp} (h : liftS E w (fun D s g => te (D.xk s) s g fun a g1 => asg (.tup is) a s g1 fun s2 => D.nx s2 g1) D σ H) : tAsg (liftE E w te) (gT E.K (.tup is)) D σ H := by
  obtain ⟨s, g, d, hs, hg, h, kd⟩ := h
  exact ⟨s, g, _, _, hs, hg, h, fun a g1 v H1 hg1 ra f1 h1 => l_asg ra (hs.keep (f1.tk hg)) hg1 h1 fun s2 σ2 r2 _ k => kd.nx s2 g1 σ2 H1 r2 hg1 f1 k, kd.xk hs hg⟩
theorem l_par {ta tb : TE3} {i j : Nat} {D : Ends} {σ : L2.St} {H : Hp} (h : liftS E w (fun D s g => ta (D.xk s) s g fun a g1 => tb (D.xk s) s g1 fun b g2 => D.nx ((s.set i (some a)).set j (some b)) g2) D σ H) :
    tPar i j (tCons (liftE E w ta) (tCons (liftE E w tb) tNil)) D σ H := by
  obtain ⟨s, g, d, hs, hg, h, kd⟩ := h
  have kx := kd.xk hs hg
  refine ⟨s, g, _, _, hs, hg, h, fun a g1 v H1 hg1 ra f1 h1 => ?_, kx⟩
  have t1 := f1.tk hg
  refine ⟨s, g1, _, _, hs.keep t1, hg1, h1, fun b g2 u H2 hg2 rb f2 h2 => ?_, kx.at f1⟩
  have t2 := f2.tk hg1
  exact ⟨v, u, rfl, kd.nx _ g2 _ H2 ((((hs.keep t1).keep t2).set (ra.keep t2) i).set rb j) hg2 (f1.trans f2) h2⟩
theorem l_put3 {te to ti : TE3} {D : Ends} {σ : L2.St} {H : Hp} (h : liftS E w (fun D s g => te (D.xk s) s g fun v g1 => to (D.xk s) s g1 fun a g2 => ti (D.xk s) s g2 fun y g3 => putS a y v g3 fun g4 => D.nx s g4) D σ H) :
    tAsg (liftE E w te) (gSub (liftE E w to) (liftE E w ti) (liftPut (E := E) putS)) D σ H := by
  obtain ⟨s, g, d, hs, hg, h, kd⟩ := h
  have kx := kd.xk hs hg
  refine ⟨s, g, _, _, hs, hg, h, fun c g1 v H1 hg1 rc f1 h1 => ?_, kx⟩
  have t1 := f1.tk hg
  refine ⟨s, g1, _, _, hs.keep t1, hg1, h1, fun a g2 u H2 hg2 ra f2 h2 => ?_, kx.at f1⟩
  have t2 := f2.tk hg1
  refine ⟨s, g2, _, _, (hs.keep t1).keep t2, hg2, h2, fun b g3 u3 H3 hg3 rb f3 h3 => ?_, kx.at (f1.trans f2)⟩
  have t3 := f3.tk hg2
  refine ⟨a, b, c, g3, _, ra.keep t3, rb, (rc.keep t2).keep t3, hg3, h3, fun g4 H4 hg4 f4 h4 => ?_⟩
  exact kd.nx s g4 σ H4 ((((hs.keep t1).keep t2).keep t3).keep (f4.tk hg3)) hg4 (((f1.trans f2).trans f3).trans f4) h4
theorem l_if {tc : TT3} {ta tb : TS3} {D : Ends} {σ : L2.St} {H : Hp} (h : liftS E w (fun D s g => tc (D.xk s) s g fun k g1 => if k = true then ta D s g1 else tb D s g1) D σ H) :
    tIfS (liftT E w tc) (liftS E w ta) (liftS E w tb) D σ H := by
  obtain ⟨s, g, d, hs, hg, h, kd⟩ := h
  refine ⟨s, g, _, _, hs, hg, h, fun b g1 H1 hg1 f1 h1 => ?_, kd.xk hs hg⟩
  show if b = true then _ else _
  replace h1 : if b = true then _ else _ := h1
  by_cases e : b = true
  · rw [if_pos e] at h1 ⊢
    exact ⟨s, g1, d, hs.keep (f1.tk hg), hg1, h1, kd.at f1⟩
  · rw [if_neg e] at h1 ⊢
    exact ⟨s, g1, d, hs.keep (f1.tk hg), hg1, h1, kd.at f1⟩
theorem l_seq {ta tb : TS3} {D : Ends} {σ : L2.St} {H : Hp} (h : liftS E w (fun D s g => ta { D with nx := tb D } s g) D σ H) : tSeq (liftS E w ta) (liftS E w tb) D σ H := by
  obtain ⟨s, g, d, hs, hg, h, kd⟩ := h
  exact ⟨s, g, _, hs, hg, h, ⟨fun s' g' σ' H' r1 r2 f n => ⟨s', g', d, r1, r2, n, kd.at f⟩, kd.rt, kd.bk, kd.ct, kd.ex⟩⟩
theorem l_nx {D : Ends} {σ : L2.St} {H : Hp} (h : liftS E w (fun D s g => D.nx s g) D σ H) : tNext D σ H := by
  obtain ⟨s, g, d, hs, hg, h, kd⟩ := h
  exact kd.nx s g σ H hs hg FK.refl h
theorem l_while {tc : TT3} {tb : TS3} {D : Ends} {σ : L2.St} {H : Hp}
    (h : liftS E w (fun D s g => ∃ M : Nat → Sx → G → Prop, (∃ m, M m s g) ∧ ∀ m s g, M m s g → tc (D.xk s) s g fun b g1 =>
      if b = true then tb { D with nx := fun s' g' => ∃ m', m' < m ∧ M m' s' g', ct := fun s' g' => ∃ m', m' < m ∧ M m' s' g', bk := D.nx } s g1 else D.nx s g1) D σ H) :
    tWhile (liftT E w tc) (liftS E w tb) D σ H := by
  obtain ⟨s, g, d, hs, hg, ⟨M, ⟨m0, h0⟩, h⟩, kd⟩ := h
  refine ⟨fun m σ' H' => ∃ s' g', SR E.K H' s' σ' ∧ GR E g' H' ∧ FK g H g' H' ∧ M m s' g', ⟨m0, s, g, hs, hg, FK.refl, h0⟩, ?_⟩
  rintro m σ1 H1 ⟨s1, g1, hs1, hg1, f1, hm⟩
  have kd1 := kd.at f1
  refine ⟨s1, g1, _, _, hs1, hg1, h m s1 g1 hm, fun b g2 H2 hg2 f2 h2 => ?_, kd1.xk hs1 hg1⟩
  show if b = true then _ else _
  replace h2 : if b = true then _ else _ := h2
  have hs2 := hs1.keep (f2.tk hg1)
  by_cases e : b = true
  · rw [if_pos e] at h2 ⊢
    refine ⟨fun σ' H' => ∃ m', m' < m ∧ ∃ s' g', SR E.K H' s' σ' ∧ GR E g' H' ∧ FK g H g' H' ∧ M m' s' g', fun σ' H' z => z, s1, g2, _, hs2, hg2, h2, ⟨?_, ?_, ?_, ?_, ?_⟩⟩
    · rintro s' g' σ' H' r1 r2 f ⟨m', hl, n⟩
      exact ⟨m', hl, s', g', r1, r2, (f1.trans f2).trans f, n⟩
    · exact (kd1.at f2).rt
    · exact (kd1.at f2).nx
    · rintro s' g' σ' H' r1 r2 f ⟨m', hl, n⟩
      exact ⟨m', hl, s', g', r1, r2, (f1.trans f2).trans f, n⟩
    · exact (kd1.at f2).ex
  · rw [if_neg e] at h2 ⊢
    exact (kd1.at f2).nx s1 g2 σ1 H2 hs2 hg2 FK.refl h2
theorem l_for {tg : T3} {ti : TI3} {tb : TS3} {D : Ends} {σ : L2.St} {H : Hp} (h : liftS E w (fun D s g => ti (D.xk s) s g fun items ok g1 => forI tg ok tb D items s g1) D σ H) :
    tFor (liftI E w ti) (gT E.K tg) (liftS E w tb) D σ H := by
  obtain ⟨s, g, d, hs, hg, h, kd⟩ := h
  refine ⟨s, g, _, _, hs, hg, h, fun items ok g1 J H1 hg1 f1 hit hl => ?_, kd.xk hs hg⟩
  have kd1 := kd.at f1
  refine ⟨fun i n σ' H' => n = items.length - i ∧ i ≤ items.length ∧ ∃ s2 g2, SR E.K H' s2 σ' ∧ GR E g2 H' ∧ FK g1 H1 g2 H' ∧ forI tg ok tb d (items.drop i) s2 g2,
    ⟨items.length, by simp, Nat.zero_le _, s, g1, hs.keep (f1.tk hg), hg1, FK.refl, hl⟩, ?_⟩
  rintro i n σ2 H2 ⟨rfl, hi, s2, g2, hs2, hg2, f2, hl⟩
  cases hd : items.drop i with
  | nil =>
    rw [hd] at hl
    exact .inl ⟨(hit i g2 H2 hg2 f2 hl.1).2 (List.drop_eq_nil_iff.mp hd), (kd1.at f2).nx s2 g2 σ2 H2 hs2 hg2 FK.refl hl.2⟩
  | cons y ys =>
    rw [hd] at hl
    have hlt : i < items.length := by
      rcases Nat.lt_or_ge i items.length with z | z
      · exact z
      · rw [List.drop_eq_nil_of_le z] at hd; cases hd
    have ey : items[i]? = some y := by
      have := congrArg List.head? hd
      simpa [List.head?_drop] using this
    have eys : items.drop (i + 1) = ys := by
      have := congrArg List.tail hd
      simpa [List.tail_drop] using this
    obtain ⟨hok, hl⟩ := hl
    obtain ⟨hgo, hyl⟩ := (hit i g2 H2 hg2 f2 hok).1 y ey
    refine .inr ⟨hgo, fun σ' H' => ∃ m', m' < items.length - i ∧ (m' = items.length - (i + 1) ∧ i + 1 ≤ items.length ∧ ∃ s2 g2, SR E.K H' s2 σ' ∧ GR E g2 H' ∧ FK g1 H1 g2 H' ∧ forI tg ok tb d (items.drop (i + 1)) s2 g2),
      fun σ' H' z => z, fun v H3 hy => ?_⟩
    obtain ⟨rv, hg3, f3⟩ := hyl v H3 hy
    have kd3 := (kd1.at f2).at f3
    have nx : KN E g2 H3 (forI tg ok tb d ys) (fun σ' H' => ∃ m', m' < items.length - i ∧ (m' = items.length - (i + 1) ∧ i + 1 ≤ items.length ∧ ∃ s2 g2, SR E.K H' s2 σ' ∧ GR E g2 H' ∧ FK g1 H1 g2 H' ∧ forI tg ok tb d (items.drop (i + 1)) s2 g2)) :=
      fun s' g' σ' H' r1 r2 f n => ⟨_, by omega, rfl, hlt, s', g', r1, r2, (f2.trans f3).trans f, by rw [eys]; exact n⟩
    exact l_asg rv (hs2.keep (f3.tk hg2)) hg3 hl fun s4 σ4 hs4 st hk => ⟨s4, g2, _, hs4, hg3, hk, ⟨nx, kd3.rt, kd3.nx, nx, kd3.ex⟩⟩
theorem l_forK {tg : T3} {ti : TI3} {tb : TS3} {D : Ends} {σ : L2.St} {H : Hp} (h : liftS E w (fun D s g => ti (D.xk s) s g fun items ok g1 => forI tg ok tb (unD g D) items s g1) D σ H) :
    tUnl (tFor (liftI E w ti) (gT E.K tg) (liftS E w tb)) D σ H := by
  obtain ⟨s, g, d, hs, hg, h, kd⟩ := h
  exact l_for (D := unE H D) ⟨s, g, unD g d, hs, hg, h, un_kd hg kd⟩
theorem swaps_no {e : Expr} {l : Nat} {env : Env} (h : notComp e = true) (t : Option Expr) : swapsWith e t l env = pure false := by
  cases e <;> first | rfl | (simp [notComp] at h)
theorem swapsT {es : List Expr} {k : Nat} {p : Pos} {e : Expr} {l : Nat} {env : Env} : swapsWithSole [.Tuple es k p] e l env = pure false := by
  cases e <;> rfl
theorem swapsS {a b : Expr} {p : Pos} {e : Expr} {l : Nat} {env : Env} : swapsWithSole [.Subscript a b p] e l env = pure false := by
  cases e <;> rfl
theorem swappedT {es : List Expr} {k : Nat} {p : Pos} {e : Expr} {env : Env} (h : isTupE e = false) : swappedStores [.Tuple es k p] e env = pure none := by
  cases e <;> first | rfl | (simp [isTupE] at h)
theorem swappedP (ok : CkOk ck X E w CF gl) {x y : Str} {px py pt pt2 : Pos} {kt k2 : Nat} {a b : Expr} (pa : plainE a = true) (pb : plainE b = true) (h : swapOk ck x y px py a b = true) :
    swappedStores [.Tuple [.Name x px, .Name y py] kt pt] (.Tuple [a, b] k2 pt2) X.env = pure (some [x, y]) := by
  unfold swapOk at h
  obtain ⟨h, h6⟩ := bool_and h
  obtain ⟨h, h5⟩ := bool_and h
  obtain ⟨h, h4⟩ := bool_and h
  obtain ⟨h, h3⟩ := bool_and h
  obtain ⟨h1, h2⟩ := bool_and h
  have kx : X.env.kindOf x = some .local := by show X.env.scope.names.lookup x = _; rw [ok.sc]; exact of_decide_eq_true h2
  have ky : X.env.kindOf y = some .local := by show X.env.scope.names.lookup y = _; rw [ok.sc]; exact of_decide_eq_true h3
  have hne : x ≠ y := of_decide_eq_true h4
  have hb : X.env.blockKind = .function := by
    unfold Env.blockKind
    rw [ok.sc, ok.kind]
    rfl
  have hl : py.line = px.line := by simpa using h1
  have s1 : ∀ e, plainE e = true → (match e with | .Starred .. => true | _ => false) = false := fun e h => by cases e <;> first | rfl | (simp [plainE] at h)
  have hed : ([x, y].eraseDups.length) = 2 := by
    simp [List.eraseDups_cons, hne, Ne.symm hne]
  have n5 := bool_not h5
  have n6 := bool_not h6
  unfold swappedStores
  simp [hb, kx, ky, hl, s1 a pa, s1 b pb, Expr.pos, hne, Ne.symm hne, hed, n5, n6]
  rintro (h | h)
  · exfalso; cases a <;> first | exact ff h | (simp [plainE] at pa)
  · exfalso; cases b <;> first | exact ff h | (simp [plainE] at pb)
theorem asg_sub {o i : Expr} {p : Pos} {env : Env} (h : notSl i = true) (v : Value) : assign (.Subscript o i p) env v = (do
    let ov ← holding [v] (eval o env)
    let iv ← holding [v, ov] (eval i env)
    standAt p
    holding [v, ov, iv] (setItem ov iv v)
    release [v, ov, iv] []) := by
  cases i <;> first | rfl | (simp [notSl] at h)
variable {x : Stmt}
theorem j_set {i : Nat} {e : E3} (h : chkS (.set i e) ck x = true) : ∃ y q v p, x = .Assign [.Name y q] v p ∧ isLoc ck i y = true ∧ chk e ck v = true ∧ (notComp v = true ∨ isFrz e = false) := by
  cases x <;> first | exact ff h | skip
  rename_i ts v p
  match ts, h with
  | [], h => exact ff h
  | a :: _ :: _, h => cases a <;> exact ff h
  | [a], h =>
    cases a <;> first | exact ff h | skip
    obtain ⟨h, h3⟩ := bool_and h
    obtain ⟨h1, h2⟩ := bool_and h
    exact ⟨_, _, _, _, rfl, h1, h2, by simpa using h3⟩
theorem j_seta {o : E3} {f : Str} {e : E3} (h : chkS (.seta o f e) ck x = true) : ∃ l q v p, x = .Assign [.Attribute l f q] v p ∧ f ∈ ck.fl ∧ notComp v = true ∧ chk e ck v = true ∧ chk o ck l = true := by
  cases x <;> first | exact ff h | skip
  rename_i ts v p
  match ts, h with
  | [], h => exact ff h
  | a :: _ :: _, h => cases a <;> exact ff h
  | [a], h =>
    cases a <;> first | exact ff h | skip
    obtain ⟨h, h5⟩ := bool_and h
    obtain ⟨h, h4⟩ := bool_and h
    obtain ⟨h, h3⟩ := bool_and h
    obtain ⟨h1, h2⟩ := bool_and h
    have e := of_decide_eq_true h1
    subst e
    exact ⟨_, _, _, _, rfl, of_decide_eq_true h2, h3, h4, h5⟩
theorem j_setT {is : List Nat} {e : E3} (h : chkS (.setT is e) ck x = true) : ∃ es k q v p, x = .Assign [.Tuple es k q] v p ∧ locs ck is es = true ∧ chk e ck v = true ∧ isTupE v = false ∧ ck.hot = false := by
  cases x <;> first | exact ff h | skip
  rename_i ts v p
  match ts, h with
  | [], h => exact ff h
  | a :: _ :: _, h => cases a <;> exact ff h
  | [a], h =>
    cases a <;> first | exact ff h | skip
    obtain ⟨h, h9⟩ := bool_and h
    obtain ⟨h, h3⟩ := bool_and h
    obtain ⟨h1, h2⟩ := bool_and h
    exact ⟨_, _, _, _, _, rfl, h1, h2, bool_not h3, bool_not h9⟩
theorem j_par {i j : Nat} {a b : E3} (h : chkS (.par i j a b) ck x = true) : ∃ y py z pz k q u v k2 q2 p, x = .Assign [.Tuple [.Name y py, .Name z pz] k q] (.Tuple [u, v] k2 q2) p ∧ i ≠ j ∧ isLoc ck i y = true ∧ isLoc ck j z = true ∧
    chk a ck u = true ∧ chk b ck v = true ∧ plainE u = true ∧ plainE v = true ∧ swapOk ck y z py pz u v = true ∧ ck.hot = false := by
  have h' : (match parOf x with
    | some (x, px, y, py, u, v) => decide (i ≠ j) && isLoc ck i x && isLoc ck j y && chk a ck u && chk b ck v && plainE u && plainE v && swapOk ck x y px py u v && !ck.hot
    | none => false) = true := h
  cases e : parOf x with
  | none => rw [e] at h'; exact ff h'
  | some t =>
    obtain ⟨y, py, z, pz, u, v⟩ := t
    rw [e] at h'
    obtain ⟨k, q, k2, q2, p, rfl⟩ := parOf_inv e
    obtain ⟨h', h9⟩ := bool_and h'
    obtain ⟨h, h8⟩ := bool_and h'
    obtain ⟨h, h7⟩ := bool_and h
    obtain ⟨h, h6⟩ := bool_and h
    obtain ⟨h, h5⟩ := bool_and h
    obtain ⟨h, h4⟩ := bool_and h
    obtain ⟨h, h3⟩ := bool_and h
    obtain ⟨h1, h2⟩ := bool_and h
    exact ⟨_, _, _, _, _, _, _, _, _, _, _, rfl, of_decide_eq_true h1, h2, h3, h4, h5, h6, h7, h8, bool_not h9⟩
theorem j_put {o i e : E3} (h : chkS (.put o i e) ck x = true) : ∃ l r q v p, x = .Assign [.Subscript l r q] v p ∧ chk e ck v = true ∧ chk o ck l = true ∧ chk i ck r = true ∧ notSl r = true := by
  cases x <;> first | exact ff h | skip
  rename_i ts v p
  match ts, h with
  | [], h => exact ff h
  | a :: _ :: _, h => cases a <;> exact ff h
  | [a], h =>
    cases a <;> first | exact ff h | skip
    obtain ⟨h, h4⟩ := bool_and h
    obtain ⟨h, h3⟩ := bool_and h
    obtain ⟨h1, h2⟩ := bool_and h
    exact ⟨_, _, _, _, _, rfl, h1, h2, h3, h4⟩
theorem j_for {tg : T3} {it : I3} {b : Ss3} (h : chkS (.for_ tg it b) ck x = true) : ∃ t i y p, x = .For t i y [] p ∧ chkT ck tg t = true ∧ chki it ck (isTupE t) i = true ∧ chkSs b ck y = true ∧ ck.hot = false := by
  cases x <;> first | exact ff h | skip
  rename_i t i y e p
  match e, h with
  | [], h =>
    obtain ⟨h, h9⟩ := bool_and h
    obtain ⟨h, h3⟩ := bool_and h
    obtain ⟨h1, h2⟩ := bool_and h
    exact ⟨_, _, _, _, rfl, h1, h2, h3, bool_not h9⟩
  | _ :: _, h => exact ff h
theorem j_forK {tg : T3} {it : I3} {b : Ss3} (h : chkS (.forK tg it b) ck x = true) : ∃ t i y p, x = .For t i y [] p ∧ chkT ck tg t = true ∧ chki it ck (isTupE t) i = true ∧ chkSs b ck y = true ∧ ck.hot = false := by
  cases x <;> first | exact ff h | skip
  rename_i t i y e p
  match e, h with
  | [], h =>
    obtain ⟨h, h9⟩ := bool_and h
    obtain ⟨h, h3⟩ := bool_and h
    obtain ⟨h1, h2⟩ := bool_and h
    exact ⟨_, _, _, _, rfl, h1, h2, h3, bool_not h9⟩
  | _ :: _, h => exact ff h
theorem j_while {c : E3} {b : Ss3} (h : chkS (.while_ c b) ck x = true) : ∃ t y p, x = .While t y [] p ∧ chk c ck t = true ∧ chkSs b ck y = true := by
  cases x <;> first | exact ff h | skip
  rename_i t y e p
  match e, h with
  | [], h =>
    obtain ⟨h1, h2⟩ := bool_and h
    exact ⟨_, _, _, rfl, h1, h2⟩
  | _ :: _, h => exact ff h
theorem j_raise {c : Nat} (h : chkS (.raise_ c) ck x = true) : ∃ y q m k q2 p2 p, x = .Raise (some (.Call (.Name y q) [.Constant (.str m) k q2] [] p2)) none p ∧ ck.xs[c]? = some y ∧ isGl ck y = true ∧ ck.hot = false ∧ ck.xf[c]? = some none ∧ ck.inDef = true := by
  have h' : (match raiseOf x with
    | some x => decide (ck.xs[c]? = some x) && isGl ck x && !ck.hot && decide (ck.xf[c]? = some none) && ck.inDef
    | none => false) = true := h
  cases e : raiseOf x with
  | none => rw [e] at h'; exact ff h'
  | some t =>
    rw [e] at h'
    obtain ⟨q, m, k, q2, p2, p, rfl⟩ := raiseOf_inv e
    obtain ⟨h', h8⟩ := bool_and h'
    obtain ⟨h', h7⟩ := bool_and h'
    obtain ⟨h', h9⟩ := bool_and h'
    obtain ⟨h1, h2⟩ := bool_and h'
    exact ⟨_, _, _, _, _, _, _, rfl, of_decide_eq_true h1, h2, bool_not h9, of_decide_eq_true h7, h8⟩
theorem j_raiseF {c : Nat} {f : Str} {e : E3} (h : chkS (.raiseF c f e) ck x = true) : ∃ y q v p2 p, x = .Raise (some (.Call (.Name y q) [v] [] p2)) none p ∧ ck.xs[c]? = some y ∧ isGl ck y = true ∧ ck.hot = false ∧ ck.xf[c]? = some (some f) ∧ chk e ck v = true ∧ plainE v = true ∧ ck.inDef = true := by
  have h' : (match raiseFOf x with
    | some (x, v) => decide (ck.xs[c]? = some x) && isGl ck x && !ck.hot && decide (ck.xf[c]? = some (some f)) && chk e ck v && plainE v && ck.inDef
    | none => false) = true := h
  cases er : raiseFOf x with
  | none => rw [er] at h'; exact ff h'
  | some t =>
    obtain ⟨t, v⟩ := t
    rw [er] at h'
    obtain ⟨q, p2, p, rfl⟩ := raiseFOf_inv er
    obtain ⟨h', h8⟩ := bool_and h'
    obtain ⟨h', h7⟩ := bool_and h'
    obtain ⟨h', h6⟩ := bool_and h'
    obtain ⟨h', h5⟩ := bool_and h'
    obtain ⟨h', h4⟩ := bool_and h'
    obtain ⟨h1, h2⟩ := bool_and h'
    exact ⟨_, _, _, _, _, rfl, of_decide_eq_true h1, h2, bool_not h4, of_decide_eq_true h5, h6, h7, h8⟩
end
end L3
namespace L3
open PySem PySem.Spec L2
section
variable {X : Cx} {E : Env3} {w : WX} {CF : CF3} {gl : Gs} {ck : Ck} {x : Stmt}
theorem j_try {body : Ss3} {y : Str} {row : List Bool} {nm : Option Nat} {suite els : Ss3} (h : chkS (.try_ body y row nm suite els) ck x = true) :
    ∃ b q n s0 ss q2 o p, x = .Try b [.ExceptHandler (some (.Name y q)) n (s0 :: ss) q2] o [] p ∧ isGl ck y = true ∧ (y, row) ∈ ck.cs ∧ chkN ck nm n = true ∧ chkSs body ck b = true ∧ chkSs suite { ck with hot := true } (s0 :: ss) = true ∧ chkSs els ck o = true ∧
      (nm = none ∨ els = .nil) ∧ ck.hot = false ∧ ck.inDef = true := by
  have h' : (match tryOf x with
    | some (b, t, n, s0, ss, o) => decide (t = y) && isGl ck y && decide ((y, row) ∈ ck.cs) && chkN ck nm n && chkSs body ck b && chkSs suite { ck with hot := true } (s0 :: ss) && chkSs els ck o && (nm.isNone || isNil3 els) && !ck.hot && ck.inDef
    | none => false) = true := h
  cases e : tryOf x with
  | none => rw [e] at h'; exact ff h'
  | some t =>
    obtain ⟨b, t, n, s0, ss, o⟩ := t
    rw [e] at h'
    obtain ⟨q, q2, p, rfl⟩ := tryOf_inv e
    obtain ⟨h, h9⟩ := bool_and h'
    obtain ⟨h, h8⟩ := bool_and h
    obtain ⟨h, h7⟩ := bool_and h
    obtain ⟨h, h6⟩ := bool_and h
    obtain ⟨h, h5⟩ := bool_and h
    obtain ⟨h, h4⟩ := bool_and h
    obtain ⟨h, h3⟩ := bool_and h
    obtain ⟨h, h2⟩ := bool_and h
    obtain ⟨h0, h1⟩ := bool_and h
    have e := of_decide_eq_true h0
    subst e
    refine ⟨_, _, _, _, _, _, _, _, rfl, h1, of_decide_eq_true h2, h3, h4, h5, h6, ?_, bool_not h8, h9⟩
    cases nm with
    | none => exact .inl rfl
    | some i => cases els with
      | nil => exact .inr rfl
      | cons a b => exact ff h7
theorem CkOk.tr (ok : CkOk ck X E w CF gl) (hh : ck.hot = false) (pn : List (Addr × Obj)) (xe : Value → Shared → Prop) {w' : WX} (tk : Takes (X.tr pn xe) w') (ps : PassesOwn (model X.prog X.w) X.A X.env xe) : CkOk ck (X.tr pn xe) E w' CF gl where
  hK := ok.hK
  hN := ok.hN
  nd := ok.nd
  sc := ok.sc
  kind := ok.kind
  calm := ok.calm
  stk := ok.stk
  cs := fun p h => let ⟨q⟩ := ok.cs p h; ⟨q⟩
  su := fun h => absurd (hh.symm.trans h) (by decide)
  fn := ok.fn
  tk := tk
  pass := ps
  hu := ok.hu
  blt := ok.blt
  gls := ok.gls
  fns := fun _ i x e => let ⟨f, h1, h2, ⟨h3⟩⟩ := (ok.fns hh i x e).ex; ⟨f, h1, h2, ⟨h3⟩⟩
  goc := ok.goc
  cl := ⟨ok.cl.on, ok.cl.fl, ok.cl.cls, ok.cl.noat⟩
  ob := fun _ => ⟨fun c oc m i h1 h2 => let ⟨fa, k1, ⟨k2⟩⟩ := (ok.ob hh).meth c oc m i h1 h2; ⟨fa, k1, ⟨k2⟩⟩, fun c oc h1 => let ⟨fa, k1, k3, ⟨k2⟩, k4⟩ := (ok.ob hh).mkr c oc h1; ⟨fa, k1, k3, ⟨k2⟩, k4⟩⟩
  ics := fun p h => let ⟨q⟩ := ok.ics p h; ⟨q⟩
  xs := ok.xs
  xfl := ok.xfl
  hw := fun h => absurd (hh.symm.trans h) (by decide)
  room := ok.room
  hfn := fun hd i x e => let ⟨f, h1, h2, ⟨h3⟩⟩ := (ok.hfn hd i x e).ex; ⟨f, h1, h2, ⟨h3⟩⟩
theorem CkOk.suite (ok : CkOk ck X E w CF gl) {a : Addr} {oe : Obj} {c : Nat} {d : Option Addr} (pn : List (Addr × Obj)) (hz : Zc (.ref (E.cls c)) d oe) (hf : ∃ vs, oe.data = .fields vs) (hx : XfOk X.K E c) :
    CkOk { ck with hot := true } (X.suite a ((a, oe) :: pn)) E w0 CF { gl with su := some (a, c, d) } where
  hK := ok.hK
  hN := ok.hN
  nd := ok.nd
  sc := ok.sc
  kind := ok.kind
  calm := fun h => ff h.symm
  stk := ok.stk
  cs := fun p h => let ⟨q⟩ := ok.cs p h; ⟨q⟩
  su := fun _ => ⟨a, oe, c, d, List.mem_cons_self, rfl, hz, hf, hx⟩
  fn := ok.fn
  tk := takes0
  pass := PassesOwn.never
  hu := ok.hu
  blt := ok.blt
  gls := ok.gls
  fns := fun h => ff h.symm
  goc := ok.goc
  cl := ⟨ok.cl.on, ok.cl.fl, ok.cl.cls, ok.cl.noat⟩
  ob := fun h => ff h.symm
  ics := fun p h => let ⟨q⟩ := ok.ics p h; ⟨q⟩
  xs := fun h => ff h.symm
  xfl := ok.xfl
  hw := fun _ => rfl
  room := fun _ h => ff h.symm
  hfn := fun hd i x e => let ⟨f, h1, h2, ⟨fd, ps, k, h3, h4, h5⟩⟩ := (ok.hfn hd i x e).ex; ⟨f, h1, h2, ⟨fd, ps, k, h3, ⟨h4.dp, h4.un⟩, h5⟩⟩
theorem pssE {l : List Stmt} {ι κ : Type} {p : ι → κ → Prop} {t : ι → κ → TS} (h : ∀ i j, p i j → PSs X l (t i j)) : PSs X l (fun D σ H => ∃ i j, p i j ∧ t i j D σ H) := ⟨fun pins s σ H D I ⟨i, j, hp, q⟩ => (h i j hp).run pins s σ H D I q⟩
def tsuite (E : Env3) (CF : CF3) (gl : Gs) (suite : Ss3) (a : Addr) (cls : Value) (d : Option Addr) : TS := fun D σ H => ∃ (c : Nat) (_ : Unit), (cls = .ref (E.cls c) ∧ XfOk E.K E c) ∧ liftS E w0 (svs CF { gl with su := some (a, c, d) } suite) D σ H
def clrD (nm : Option Nat) (D : Ends) : Ends := match nm with
  | some i => { nx := fun σ' H' => D.nx (σ'.set i none) H', rt := D.rt, bk := fun σ' H' => D.bk (σ'.set i none) H', ct := fun σ' H' => D.ct (σ'.set i none) H' }
  | none => D
def setN (nm : Option Nat) (a : Addr) (σ : L2.St) : L2.St := match nm with
  | some i => σ.set i (some (.ref a))
  | none => σ
theorem suite_nx {E : Env3} {g : G} {H : Hp} {d : Ends3} {D : Ends} (nm : Option Nat) (kd : KD E g H d D w) :
    KD E g H (suD nm d) (clrD nm D) w0 := by
  cases nm with
  | none => exact ⟨kd.nx, kd.rt, kd.bk, kd.ct, fun _ _ _ _ _ _ _ _ _ _ _ _ z => z.elim⟩
  | some i =>
    have un : ∀ {n : Sx → G → Prop} {N : L2.St → Hp → Prop}, KN E g H n N → KN E g H (fun s g => n (s.set i none) g) (fun σ' H' => N (σ'.set i none) H') :=
      fun k s2 g2 σ2 H2 r2 q2 f2 h2 => k _ g2 _ H2 (SR.unset i r2) q2 f2 h2
    exact ⟨un kd.nx, kd.rt, un kd.bk, un kd.ct, fun _ _ _ _ _ _ _ _ _ _ _ _ z => z.elim⟩
theorem suR_use {E : Env3} {g g' : G} {H H' : Hp} {c : Nat} {fs : List (Str × W)} {cls : Value} {x : Option Addr} {k : Option Addr → G → Prop} (h : suR fs k g') (xr : XR E g H H' c fs cls x) (hg : GR E g' H') (f : FK g H g' H') : ∃ g2, GR E g2 H' ∧ FK g H g2 H' ∧ k x g2 := by
  obtain ⟨_, xr⟩ := xr
  rcases xr with ⟨e1, e2⟩ | ⟨dd, l, ne, e1, fr, hl, k1, k2⟩
  · subst e1 e2
    exact ⟨g', hg, f, h⟩
  · subst e1
    cases fs with
    | nil => exact absurd rfl ne
    | cons p fs =>
      refine ⟨_, fun b o e => ?_, ⟨fun b u hu hn => ?_, f.frz⟩, h dd fun o eo => ?_⟩
      · by_cases z : b = dd
        · subst z; rw [gup_same] at e; cases e; exact ⟨l, hl, k1, k2⟩
        · rw [gup_ne z] at e; exact hg b o e
      · obtain ⟨q1, q2⟩ := f.own b u hu hn
        have z : b ≠ dd := fun z => by subst z; exact fr u hu hn
        exact ⟨q1, by rw [gup_ne z]; exact q2⟩
      · have r := hg dd o eo
        cases o with
        | lst xs => obtain ⟨ys, r, _⟩ := r; rw [hl] at r; cases r
        | dic lk kvs => obtain ⟨l, r, _⟩ := r; cases lk <;> simp [DicAt, hl] at r
        | dit lk kvs => obtain ⟨l, r, _⟩ := r; cases lk <;> simp [DicAt, hl] at r
        | ins c fs => obtain ⟨_, _, dx, l, r, _⟩ := r; rw [hl] at r; cases r
        | xd l => exact ⟨l, rfl⟩
theorem s_try (ok : CkOk ck X E w CF gl) {body : Ss3} {y : Str} {row : List Bool} {nm : Option Nat} {suite els : Ss3} {b ss o : List Stmt} {q q2 p : Pos} {n : Option Str} {s0 : Stmt}
    (h1 : isGl ck y = true) (h2 : (y, row) ∈ ck.cs) (h3 : chkN ck nm n = true) (hb : ∀ {X' : Cx} {w' : WX}, CkOk ck X' E w' CF gl → PSs X' b (liftS E w' (svs CF gl body)))
    (hsu : ∀ {X' : Cx} {gl' : Gs}, CkOk { ck with hot := true } X' E w0 CF gl' → PSs X' (s0 :: ss) (liftS E w0 (svs CF gl' suite))) (ho : PSs X o (liftS E w (svs CF gl els))) (ho' : els = .nil → o = []) (h7 : nm = none ∨ els = .nil) (hh : ck.hot = false) (hd : ck.inDef = true) :
    PS X (.Try b [.ExceptHandler (some (.Name y q)) n (s0 :: ss) q2] o [] p) (liftS E w (sv CF gl (.try_ body y row nm suite els))) := by
  obtain ⟨v, cv, rv, uv, mv, facts⟩ := (ok.cs _ h2).ex
  obtain ⟨hst, hfr⟩ := ok.stk hd
  have hg := ok.gl' h1
  have nms : Names X y cv := ⟨hg.1, hg.2, mv⟩
  have hbody : ∀ (W : WX) (pn : List (Addr × Obj)) (xe : Value → Shared → Prop), Takes (X.tr pn xe) W → PassesOwn (model X.prog X.w) X.A X.env xe → PSs (X.tr pn xe) b (liftS E W (svs CF gl body)) :=
    fun W pn xe tk ps => hb (ok.tr hh pn xe tk ps)
  have hsuite : ∀ (a : Addr) (oe : Obj) (cls : Value) (d : Option Addr) (pn : List (Addr × Obj)), Zc cls d oe → (∃ vs, oe.data = .fields vs) → PSs (X.suite a ((a, oe) :: pn)) (s0 :: ss) (tsuite E CF gl suite a cls d) :=
    fun a oe cls d pn hz hf => pssE fun c _ hp => by
      obtain ⟨rfl, hx⟩ := hp
      exact hsu (ok.suite pn hz hf (by rw [ok.hK]; exact hx))
  have way : ∀ {g : G} {H : Hp} {d : Ends3} {D : Ends}, KD E g H d D w → ∀ c fs s' g' σ' cls x H', SR E.K H' s' σ' → GR E g' H' → XR E g H H' c fs cls x → FK g H g' H' →
      (∃ b, row[c]? = some b ∧ if b = true then ∀ a, g' a = none → suR fs (fun x g2 => svs CF { gl with su := some (a, c, x) } suite (suD nm d) (enN nm a c x s') g2) g' else d.ex c fs s' g') →
      ∃ b, PySem.W.exmOne X.K cls cv = some b ∧ (b = true → ∀ a, H' a = none → tsuite E CF gl suite a cls x (clrD nm D)
        (setN nm a σ') H') ∧ (b = false → w cls x σ' H') := by
    intro g H d D kd c fs s' g' σ' cls x H' r1 r2 xr f hx
    obtain ⟨bb, eb, hx⟩ := hx
    obtain ⟨ec, xd⟩ := id xr
    subst ec
    refine ⟨bb, (facts _ _ eb).2.1, fun e a ha => ?_, fun e => ?_⟩
    · rw [if_pos e] at hx
      obtain ⟨g2, q1, q2, q3⟩ := suR_use (hx a (r2.free ha)) xr r2 f
      refine ⟨c, (), ⟨rfl, by rw [← ok.hK]; exact (facts _ _ eb).2.2.2⟩, _, g2, _, ?_, q1, q3, suite_nx nm (kd.at q2)⟩
      cases nm with
      | none => exact r1
      | some i => exact r1.set (w := .exc a c x) (v := .ref a) (by rw [RV]) i
    · rw [if_neg (by rw [e]; decide)] at hx
      exact kd.ex c fs s' g' σ' _ x H' r1 r2 xr f hx
  cases nm with
  | some i =>
    have hn : els = .nil := by rcases h7 with z | z; cases z; exact z
    subst hn
    obtain rfl := ho' rfl
    cases n with
    | none => exact ff h3
    | some n =>
      have h3' : (decide (ck.N[i]? = some n) && decide (ck.sc.names.lookup n = some .local)) = true := h3
      obtain ⟨k1, k2⟩ := bool_and h3'
      have e1 : X.N[i]? = some n := by rw [ok.hN]; exact of_decide_eq_true k1
      have e2 : X.env.kindOf n = some .local := by show X.env.scope.names.lookup n = _; rw [ok.sc]; exact of_decide_eq_true k2
      refine psI (ps_try_as hst hfr ok.nd' e1 e2 nms ok.tk hbody hsuite) fun D σ H h => ?_
      obtain ⟨s, g, d, hs, hg', h, kd⟩ := h
      exact ⟨s, g, _, hs, hg', h, ⟨kd.nx, kd.rt, kd.bk, kd.ct, way kd⟩⟩
  | none =>
    cases n with
    | some _ => exact ff h3
    | none =>
      refine psI (ps_try_onlyE ho hst hfr nms ok.tk hbody hsuite) fun D σ H h => ?_
      obtain ⟨s, g, d, hs, hg', h, kd⟩ := h
      refine ⟨s, g, _, hs, hg', h, ⟨?_, kd.rt, kd.bk, kd.ct, way kd⟩⟩
      intro s2 g2 σ2 H2 r2 q2 f2 h2
      exact ⟨s2, g2, d, r2, q2, h2, kd.at f2⟩
end
end L3
set_option maxRecDepth 100000
set_option maxHeartbeats 16000000
namespace L3
open PySem PySem.Spec L2
section
variable {E : Env3} {CF : CF3} {gl : Gs}
theorem s_set {X : Cx} {w : WX} {ck : Ck} (ok : CkOk ck X E w CF gl) {i : Nat} {e : E3} {y : Str} {q p : Pos} {v : Expr} (h1 : isLoc ck i y = true) (h2 : chk e ck v = true) (h3 : notComp v = true ∨ isFrz e = false) :
    PS X (.Assign [.Name y q] v p) (liftS E w (sv CF gl (.set i e))) := by
  obtain ⟨l1, l2, l3⟩ := ok.loc h1
  have pe := (s_e e ok h2).1
  have plain : swapsWith v (some (.Name y q)) p.line X.env = pure false → PS X (.Assign [.Name y q] v p) (liftS E w (sv CF gl (.set i e))) :=
    fun hs => psI (ps_set (i := i) ok.nd' l1 l2 pe hs l3) fun _ _ _ => l_set
  cases hn : notComp v with
  | true => exact plain (swaps_no hn _)
  | false =>
    have hz : isFrz e = false := by
      rcases h3 with z | z
      · rw [hn] at z; cases z
      · exact z
    cases v <;> first | (simp [notComp] at hn; done) | (cases e <;> first | (cases hz; done) | exact ff h2) | skip
    rename_i el gens scope vp
    by_cases hy : X.env.scope.names.lookup y = some .local
    case neg =>
      refine plain ?_
      have hk : (X.env.kindOf y == some NameKind.local) = false := by
        show (X.env.scope.names.lookup y == some NameKind.local) = false
        cases hq : X.env.scope.names.lookup y with
        | none => rfl
        | some z => rw [hq] at hy; cases z <;> first | rfl | exact absurd rfl hy
      show (pure (X.env.blockKind == .function && X.env.kindOf y == some .local && q.line == vp.line && !(scope.names.any fun (n, k) => n == y && (k == .local || k == .cell))) : Sem Bool) = pure false
      rw [hk]
      simp
    have hb : ∃ b : Bool, swapsWith (.ListComp el gens scope vp) (some (.Name y q)) p.line X.env = pure b := ⟨_, rfl⟩
    obtain ⟨b, hb⟩ := hb
    cases b with
    | false => exact plain hb
    | true =>
      cases e <;> first | (cases hz; done) | exact ff h2 | skip
      · rename_i elt tg it c own
        obtain ⟨e, tg', it', ifs, scope2, p', e0, k1, k2, k3, k4, k5, k6, k7, k8, hh⟩ := i_lc h2
        cases e0
        have hk := blk_kind k1
        have hb2 : BlkOk X.N X.env.scope scope (own.filterMap fun i => ck.N[i]?.map fun x => (x, i)) := by rw [ok.hN, ok.sc]; exact blkOk_by k1
        refine psI (ps_setLc (i := i) (ok.calm hh) ok.nd' l1 hy hb (s_i it ok tg' k5) hb2 (fun s H C cl fp => s_t (ok.blk hh s H scope hk C cl fp) k6) (fun s H C cl fp => s_c c (ok.blk hh s H scope hk C cl fp) k8)
          (fun s H C cl fp => (s_e elt (ok.blk hh s H scope hk C cl fp) k7).1) (fold_id (chki_noset k5))) fun D σ H h => ?_
        have h' := l_set (te := ev CF gl (.lc elt tg it c own)) (i := i) h
        rw [own_ix k3]
        exact l_lc (Q := fun x H1 => gName i x σ H1 D.nx) k2 h'
      · rename_i elt tg it c own
        obtain ⟨e, tg', it', ifs, scope2, p', e0, k1, k2, k3, k4, k5, k6, k7, k8, hh⟩ := i_lcK h2
        cases e0
        have hk := blk_kind k1
        have hb2 : BlkOk X.N X.env.scope scope (own.filterMap fun i => ck.N[i]?.map fun x => (x, i)) := by rw [ok.hN, ok.sc]; exact blkOk_by k1
        refine psI (ps_unl (ps_setLc (i := i) (ok.calm hh) ok.nd' l1 hy hb (s_i it ok tg' k5) hb2 (fun s H C cl fp => s_t (ok.blk hh s H scope hk C cl fp) k6) (fun s H C cl fp => s_c c (ok.blk hh s H scope hk C cl fp) k8)
          (fun s H C cl fp => (s_e elt (ok.blk hh s H scope hk C cl fp) k7).1) (fold_id (chki_noset k5)))) fun D σ H h => ?_
        obtain ⟨s, g, d, hs, hg, h, kd⟩ := h
        rw [own_ix k3]
        refine l_lc (Q := fun x H1 => gName i x σ H1 (unE H D).nx) k2 ⟨s, g, _, _, hs, hg, h, fun a g1 v H1 hg1 ra f1 h1 => ?_, kd.xk hs hg⟩
        exact un_of hg hg1 f1 h1 fun g2 H2 q1 q2 t p => kd.nx _ g2 _ H2 (((hs.keep (f1.tk hg)).keep t).set (ra.keep t) i) q1 q2 p
mutual
theorem s_s : ∀ (st : S3) {gl : Gs} {X : Cx} {w : WX} {ck : Ck}, CkOk ck X E w CF gl → ∀ {x : Stmt}, chkS st ck x = true → PS X x (liftS E w (sv CF gl st))
  | .expr e, gl, X, w, ck, ok, x, h => by
    cases x <;> first | exact ff h | skip
    obtain ⟨h1, h2⟩ := bool_and h
    exact psI (ps_expr (s_e e ok h1).1 (swaps_no h2 _)) fun _ _ _ => l_drop
  | .ret e, gl, X, w, ck, ok, x, h => by
    cases x <;> first | exact ff h | skip
    rename_i v p
    cases v <;> first | exact ff h | skip
    exact psI (ps_ret (s_e e ok h).1) fun _ _ _ => l_ret
  | .retN, gl, X, w, ck, ok, x, h => by
    cases x <;> first | exact ff h | skip
    rename_i v p
    cases v <;> first | exact ff h | skip
    refine psI ps_retN fun D σ H h => ?_
    obtain ⟨s, g, d, hs, hg, h, kd⟩ := h
    exact kd.rt .non g .non H hg rv_non FK.refl h
  | .set i e, gl, X, w, ck, ok, x, h => by
    obtain ⟨y, q, v, p, rfl, h1, h2, h3⟩ := j_set h
    exact s_set ok h1 h2 h3
  | .setT is e, gl, X, w, ck, ok, x, h => by
    obtain ⟨es, k, q, v, p, rfl, h1, h2, h3, hh⟩ := j_setT h
    exact psI (ps_asg (s_e e ok h2).1 (s_t (tg := .tup is) ok (show (locs ck is es && !ck.hot) = true by rw [h1, hh]; rfl)) swapsT (swappedT h3)) fun _ _ _ => l_setT
  | .par i j a b, gl, X, w, ck, ok, x, h => by
    obtain ⟨y, py, z, pz, k, q, u, v, k2, q2, p, rfl, h1, h2, h3, h4, h5, h6, h7, h8, hh⟩ := j_par h
    have hl := ok.loc h2
    have hl' := ok.loc h3
    have h8' := h8
    unfold swapOk at h8'
    obtain ⟨h9, _⟩ := bool_and h8'
    obtain ⟨h9, _⟩ := bool_and h9
    obtain ⟨h9, _⟩ := bool_and h9
    obtain ⟨h9, hz⟩ := bool_and h9
    obtain ⟨_, hy⟩ := bool_and h9
    have hy' : X.env.scope.names.lookup y = some .local := by rw [ok.sc]; exact of_decide_eq_true hy
    have hz' : X.env.scope.names.lookup z = some .local := by rw [ok.sc]; exact of_decide_eq_true hz
    exact psI (ps_par (ok.calm hh) ok.nd' hl.1 hl'.1 h1 hy' hz' (pa_cons (s_e a ok h4).1 (pa_cons (s_e b ok h5).1 pa_nil (star_plain h7)) (star_plain h6)) (swappedP ok h6 h7 h8) swapsT) fun _ _ _ => l_par
  | .put o i e, gl, X, w, ck, ok, x, h => by
    obtain ⟨l, r, q, v, p, rfl, h1, h2, h3, h4⟩ := j_put h
    have := ok.hu
    exact psI (ps_asg (s_e e ok h1).1 (pg_sub (s_e o ok h2).1 (s_e i ok h3).1 (l_put (by omega)) (asg_sub h4)) swapsS) fun _ _ _ => l_put3
  | .ifS c a b, gl, X, w, ck, ok, x, h => by
    cases x <;> first | exact ff h | skip
    obtain ⟨h, h3⟩ := bool_and h
    obtain ⟨h1, h2⟩ := bool_and h
    exact psI (ps_if (s_e c ok h1).2 (s_ss a ok h2) (s_ss b ok h3)) fun _ _ _ => l_if (tc := bT (ev CF gl c)) (ta := svs CF gl a) (tb := svs CF gl b)
  | .for_ tg it b, gl, X, w, ck, ok, x, h => by
    obtain ⟨t, i, y, p, rfl, h1, h2, h3, hh⟩ := j_for h
    exact psI (ps_for ok.pass (ok.calm hh) (s_i it ok t h2) (s_t ok h1) (s_ss b ok h3) (fold_id (chki_noset h2))) fun _ _ _ => l_for
  | .forK tg it b, gl, X, w, ck, ok, x, h => by
    obtain ⟨t, i, y, p, rfl, h1, h2, h3, hh⟩ := j_forK h
    exact psI (ps_unl (ps_for ok.pass (ok.calm hh) (s_i it ok t h2) (s_t ok h1) (s_ss b ok h3) (fold_id (chki_noset h2)))) fun _ _ _ => l_forK
  | .while_ c b, gl, X, w, ck, ok, x, h => by
    obtain ⟨t, y, p, rfl, h1, h2⟩ := j_while h
    exact psI (ps_while ok.pass (s_e c ok h1).2 (s_ss b ok h2)) fun _ _ _ => l_while
  | .brk, gl, X, w, ck, ok, x, h => by
    cases x <;> first | exact ff h | skip
    refine psI ps_break fun D σ H h => ?_
    obtain ⟨s, g, d, hs, hg, h, kd⟩ := h
    exact kd.bk s g σ H hs hg FK.refl h
  | .cont, gl, X, w, ck, ok, x, h => by
    cases x <;> first | exact ff h | skip
    refine psI ps_continue fun D σ H h => ?_
    obtain ⟨s, g, d, hs, hg, h, kd⟩ := h
    exact kd.ct s g σ H hs hg FK.refl h
  | .pass, gl, X, w, ck, ok, x, h => by
    cases x <;> first | exact ff h | skip
    exact psI ps_pass fun _ _ _ => l_nx
  | .raise_ c, gl, X, w, ck, ok, x, h => by
    obtain ⟨y, q, m, k, q2, p2, p, rfl, h1, h2, hh, hxf, hd⟩ := j_raise h
    refine psI (ps_raise (W := w) (ok.calm hh) ok.tk (((ok.xs hh c y h1 X rfl rfl rfl rfl (ok.room hd hh)).1 hxf).pm (ok.gl' h2).1 _ _ _ _ _)) fun D σ H h => ?_
    obtain ⟨s, g, d, hs, hg, h, kd⟩ := h
    exact kd.ex c [] s g σ _ none H hs hg ⟨rfl, .inl ⟨rfl, rfl⟩⟩ FK.refl h
  | .raiseF c f e, gl, X, w, ck, ok, x, h => by
    obtain ⟨y, q, v, p2, p, rfl, h1, h2, hh, hxf, h4, h5, hd⟩ := j_raiseF h
    refine psI (ps_raise (W := w) (ok.calm hh) ok.tk (((ok.xs hh c y h1 X rfl rfl rfl rfl (ok.room hd hh)).2 f hxf).pm (ok.gl' h2).1 (ok.gl' h2).2 _ _ _ _ (s_e e ok h4).1 h5)) fun D σ H h => ?_
    obtain ⟨s, g, d, hs, hg, h, kd⟩ := h
    refine ⟨s, g, _, _, hs, hg, h, fun u g1 v1 H1 hg1 r1 f1 h1 => xfq_of fun a ha => ?_, kd.xk hs hg⟩
    have t := TK.new (o := .xd [(f, v1)]) ha
    refine kd.ex c [(f, u)] s g1 σ _ (some a) _ ((hs.keep (f1.tk hg)).keep t) (hg1.new' ha) ⟨rfl, .inr ⟨a, [(f, v1)], by simp, rfl, fun z hz hn => ?_, upd_same, rfl, RVs.cons (r1.keep t) .nil⟩⟩ (f1.trans (FK.new' ha)) h1
    have := (f1.own a z hz hn).1
    rw [ha] at this; cases this
  | .try_ body y row nm suite els, gl, X, w, ck, ok, x, h => by
    obtain ⟨b, q, n, s0, ss, q2, o, p, rfl, h1, h2, h3, h4, h5, h6, h7, h8, h9⟩ := j_try h
    exact s_try ok h1 h2 h3 (fun ok' => s_ss body ok' h4) (fun ok' => s_ss suite ok' h5) (s_ss els ok h6) (fun e => by subst e; cases o <;> first | rfl | exact ff h6) h7 h8 h9
  | .seta o f e, gl, X, w, ck, ok, x, h => by
    obtain ⟨l, q, v, p, rfl, h1, h2, h3, h4⟩ := j_seta h
    exact s_seta ok h1 (swaps_no h2 _) (s_e o ok h4).1 (s_e e ok h3).1
  | .fz i st, gl, X, w, ck, ok, x, h => psI (ps_fz (s_s st ok h)) fun _ _ _ => l_fz
  | .never, gl, X, w, ck, ok, x, h => psI ps_never fun D σ H h => by
    obtain ⟨s, g, d, hs, hg, h, kd⟩ := h
    exact h
theorem s_ss : ∀ (st : Ss3) {gl : Gs} {X : Cx} {w : WX} {ck : Ck}, CkOk ck X E w CF gl → ∀ {x : List Stmt}, chkSs st ck x = true → PSs X x (liftS E w (svs CF gl st))
  | .nil, gl, X, w, ck, ok, [], h => pssI pss_nil fun _ _ _ => l_nx
  | .nil, gl, X, w, ck, ok, _ :: _, h => ff h
  | .cons s ss, gl, X, w, ck, ok, [], h => ff h
  | .cons s ss, gl, X, w, ck, ok, x :: xs, h => by
    obtain ⟨h1, h2⟩ := bool_and h
    exact pssI (pss_cons (s_s s ok h1) (s_ss ss ok h2)) fun _ _ _ => l_seq (ta := sv CF gl s) (tb := svs CF gl ss)
end
end
def ckOf (P : List FD3) (gls xs : List Str) (cs : List (Str × List Bool)) (ocs : List OC3) (fl : List Str) (ics : List (Str × List Bool)) (xf : List (Option Str)) (xfl : List Str) (d : FD3) (sc : Scope) : Ck := { N := d.slots, sc := sc, inDef := true, P := P.map fun d => if d.glob = true ∧ d.hot = false then some d.gn else none, gls := gls, xs := xs, cs := cs, hot := d.hot, ocs := ocs, fl := fl, ics := ics, hP := P.map fun d => if d.glob = true ∧ d.hot = true then some d.gn else none, xf := xf, xfl := xfl }
structure DefOk (K : PySem.W.Frag) (mg : Str → Option Value) (P : List FD3) (gls xs : List Str) (cs : List (Str × List Bool)) (ocs : List OC3) (fl : List Str) (ics : List (Str × List Bool)) (xf : List (Option Str)) (xfl : List Str) (d : FD3) (f : Addr) (fd : FuncData) : Prop where
  ex : ∃ (qual : Str) (params : Arguments) (body : List Stmt) (scope : Scope) (oc : Value) (od : Option Addr) (dV kV doc pm : Value) (an : Option Addr) (cdv ct : Value) (osl : Array (Option Value)),
    fd = PySem.W.fnOf d.name qual params body scope dV kV doc pm an cdv ct ∧ K.lookup f = some ⟨oc, od, .func fd, osl⟩ ∧ PySem.W.codeIn K cdv qual = true ∧ FnScope d.slots d.params scope ∧ chkSs d.body (ckOf P gls xs cs ocs fl ics xf xfl d scope) body = true
  kp : PySem.W.keepIn K (.ref f) = true
  mg : d.glob = true → mg d.gn = some (.ref f)
  bind : ∀ m, m ≤ d.params.length → d.params.length ≤ m + d.dflt.length → ∃ ds dvs, Vals dvs ds ∧ Binds K fd d.params ds ∧ ∀ H, RVs K H (d.dflt.drop (d.dflt.length + m - d.params.length)) dvs
structure TopOk (prog : Program) (w : World) (K : PySem.W.Frag) (mg : Str → Option Value) (E : Env3) (P : List FD3) (gl : Gs) (gls xs : List Str) (cs : List (Str × List Bool)) (ocs : List OC3) (fl : List Str) (ics : List (Str × List Bool)) (xf : List (Option Str)) (xfl : List Str) (fa : Nat → Addr) (fd : Nat → FuncData) : Prop where
  hK : K = E.K
  defs : ∀ i d, P[i]? = some d → DefOk K mg P gls xs cs ocs fl ics xf xfl d (fa i) (fd i)
  blt : ∀ x ∈ blts, mg x = none
  gls : ∀ i x, gls[i]? = some x → ∃ u v, mg x = some u ∧ RelV v u ∧ ∀ H, RV E.K H (gl.v i) v
  xs : ∀ c x, xs[c]? = some x → ∀ X : Cx, X.prog = prog → X.w = w → X.K = K → X.mg = mg → Room 2 X.A → (xf[c]? = some none → RaiseOk X E c x) ∧ ∀ f, xf[c]? = some (some f) → RaiseFOk X E c x f
  cs : ∀ p ∈ cs, ∀ X : Cx, X.K = K → X.mg = mg → ClsFact X E p.1 p.2
  goc : gl.ocs = ocs
  on : E.on = ocs.length
  fl : E.fl = fl
  xfl : E.xfl = xfl
  cls : ∀ c, c < E.on → Cls K (E.ocl c)
  noat : ∀ c, c < E.on → ∀ f ∈ E.fl, NoAttr K (E.ocl c) f
  meth : ∀ c oc m i, ocs[c]? = some oc → oc.meths.lookup m = some i → Meth K (E.ocl c) m (fa i) ∧ ∃ d, P[i]? = some d ∧ d.hot = false
  mkr : ∀ c oc, ocs[c]? = some oc → Mk K (E.ocl c) (fa oc.init) ∧ mg oc.name = some (.ref (E.ocl c)) ∧ InitRd K (E.ocl c) (fa oc.init) ∧ ∃ d, P[oc.init]? = some d ∧ d.hot = false
  ics : ∀ p ∈ ics, ∀ X : Cx, X.K = K → X.mg = mg → IscFact X E p.1 p.2
theorem callF_full {P : List FD3} {gl : Gs} {n f : Nat} {ws : List W} {g : G} {x : XK3} {q : VK3} {d : FD3} (e : P[f]? = some d) (hh : d.hot = false) (h : callF P gl n f ws g x q) : ws.length ≤ d.params.length ∧ d.params.length ≤ ws.length + d.dflt.length ∧
    (ws ++ d.dflt.drop (d.dflt.length + ws.length - d.params.length)).length = d.params.length ∧ callF P gl n f (ws ++ d.dflt.drop (d.dflt.length + ws.length - d.params.length)) g x q := by
  cases n with
  | zero => exact h.elim
  | succ n =>
    unfold callF at h
    rw [e] at h
    simp only [hh] at h
    obtain ⟨h1, h2⟩ := h
    have hl := h1
    rw [List.length_append, List.length_drop] at hl
    refine ⟨by omega, by omega, h1, ?_⟩
    unfold callF
    rw [e]
    have e2 : d.dflt.drop (d.dflt.length + (ws ++ d.dflt.drop (d.dflt.length + ws.length - d.params.length)).length - d.params.length) = [] := by
      rw [h1]
      exact List.drop_eq_nil_of_le (by omega)
    simp only [hh, e2, List.append_nil]
    exact ⟨h1, h2⟩
theorem callF_hot {P : List FD3} {gl : Gs} {n f : Nat} {ws : List W} {g : G} {x : XK3} {q : VK3} {d : FD3} {a : Addr} {c : Nat} {dd : Option Addr} (e : P[f]? = some d) (hh : d.hot = true) (h : callF P gl n f (.exc a c dd :: ws) g x q) : ws.length = d.params.length ∧
    ∃ m, n = m + 1 ∧ svs (callF P gl m) { gl with su := some (a, c, dd) } d.body { nx := fun _ g1 => rtS g q .non g1, rt := rtS g q, bk := fun _ _ => False, ct := fun _ _ => False, ex := fun _ _ _ _ => False } (ws.map some ++ List.replicate (d.slots.length - d.params.length) none) g := by
  cases n with
  | zero => exact h.elim
  | succ n =>
    unfold callF at h
    rw [e] at h
    simp only [hh] at h
    exact ⟨h.1, n, rfl, h.2⟩
theorem _root_.L3.FK.sub {g g' : G} {H H' : Hp} (f : FK g H g' H') (he : Ext g g') : FK g H g H' := ⟨fun a u h n => ⟨(f.own a u h n).1, n⟩, f.frz⟩
theorem rtS_kq {E : Env3} {g : G} {H : Hp} {q : VK3} {Q : VK} (_ : GR E g H) (kq : KQ E g H q Q) : KQ E g H (rtS g q) Q := fun w g' v H' hg' r f h => by
  rcases h with h | ⟨he, h⟩
  · exact kq w g' v H' hg' r f h
  · exact kq w g v H' (hg'.sub he) r (f.sub he) h
theorem hot_body {prog : Program} {w : World} {K : PySem.W.Frag} {mg : Str → Option Value} {base : Heap} {E : Env3} {P : List FD3} {gl : Gs} {gls xs : List Str} {cs : List (Str × List Bool)} {ocs : List OC3} {fl : List Str} {ics : List (Str × List Bool)} {xf : List (Option Str)} {xfl : List Str} {fa : Nat → Addr} {fd : Nat → FuncData}
    (T : TopOk prog w K mg E P gl gls xs cs ocs fl ics xf xfl fa fd) {n k : Nat} {d : FD3} (hhot : d.hot = true) {qual : Str} {scope : Scope} {f : Addr} {cdv : Value} {body : List Stmt} (S : FnScope d.slots d.params scope) (hc : chkSs d.body (ckOf P gls xs cs ocs fl ics xf xfl d scope) body = true)
    {A : Around} {out : List Env} {s : Shared} {H : Hp} {a : Addr} {oe : Obj} {cn : Nat} {dd : Option Addr} (hz : Zc (.ref (E.cls cn)) dd oe) (hf : ∃ vs, oe.data = .fields vs) (hx : XfOk K E cn) (hr : L2H.RoomH k (A.deeper (PyProof.Rows.envOfC qual scope s.heap.objs.size f cdv)))
    (hfn : ∀ (X1 : Cx), L2H.RoomH k X1.A → X1.prog = prog → X1.w = w → X1.K = K → X1.mg = mg → X1.base = base → ∀ i x, (P.map fun d => if d.glob = true ∧ d.hot = true then some d.gn else none)[i]? = some (some x) → HCallOk X1 E (callF P gl n i) x) :
    PSs (L2H.cxH (L2.CX prog w) prog w K mg base d.slots qual scope f cdv A out s H (fun _ _ _ => False) (a, oe)) body (liftS E w0 (svs (callF P gl n) { gl with su := some (a, cn, dd) } d.body)) := by
  have no : ∀ {p : Prop}, (ckOf P gls xs cs ocs fl ics xf xfl d scope).hot = false → p := fun z => absurd (hhot.symm.trans z) (by decide)
  refine s_ss d.body (ck := ckOf P gls xs cs ocs fl ics xf xfl d scope) ?_ hc
  exact {
    hK := T.hK
    hN := rfl
    nd := S.nd
    sc := rfl
    kind := S.kind
    calm := fun h => no h
    stk := fun _ => ⟨rfl, rfl⟩
    cs := fun p h => T.cs p h _ rfl rfl
    su := fun _ => ⟨a, oe, cn, dd, List.mem_singleton.mpr rfl, rfl, hz, hf, hx⟩
    fn := fun _ _ => rfl
    tk := takes0
    pass := passes_of rfl
    hu := by
      show (A.deeper (PyProof.Rows.envOfC qual scope s.heap.objs.size f cdv)).units + 100 < cLine
      have := hr.un
      omega
    blt := T.blt
    gls := T.gls
    fns := fun h => no h
    goc := T.goc
    cl := ⟨T.on, T.fl, T.cls, T.noat⟩
    ob := fun h => no h
    ics := fun p h => T.ics p h _ rfl rfl
    xs := fun h => no h
    xfl := T.xfl
    hw := fun _ => rfl
    room := fun _ h => no h
    hfn := fun _ => hfn _ hr rfl rfl rfl rfl rfl }
theorem hot_calls0 {prog : Program} {w : World} {K : PySem.W.Frag} {mg : Str → Option Value} {base : Heap} {E : Env3} {P : List FD3} {gl : Gs} {gls xs : List Str} {cs : List (Str × List Bool)} {ocs : List OC3} {fl : List Str} {ics : List (Str × List Bool)} {xf : List (Option Str)} {xfl : List Str} {fa : Nat → Addr} {fd : Nat → FuncData}
    (T : TopOk prog w K mg E P gl gls xs cs ocs fl ics xf xfl fa fd) {n : Nat} (ih : ∀ (j : Nat) (dj : FD3), P[j]? = some dj → dj.hot = true → ∀ (a : Addr) (oe : Obj) (cn : Nat) (dd : Option Addr), Zc (.ref (E.cls cn)) dd oe → (∃ vs, oe.data = .fields vs) → XfOk K E cn →
      FnX prog w K mg base (2 * n + 2) (fa j) (fd j) dj.params (spF E (fun ws g x q => callF P gl n j (.exc a cn dd :: ws) g x q) dj.params.length) (a, oe))
    (X1 : Cx) (hr : L2H.RoomH (2 * n + 3) X1.A) (q1 : X1.prog = prog) (q2 : X1.w = w) (q3 : X1.K = K) (q4 : X1.mg = mg) (q5 : X1.base = base) : ∀ i x, (P.map fun d => if d.glob = true ∧ d.hot = true then some d.gn else none)[i]? = some (some x) → HCallOk X1 E (callF P gl n i) x := fun j y ej => by
  subst q1 q2 q3 q4 q5
  rw [List.getElem?_map, Option.map_eq_some_iff] at ej
  obtain ⟨dj, ej2, ez⟩ := ej
  by_cases hg : dj.glob = true ∧ dj.hot = true
  · rw [if_pos hg] at ez
    cases ez
    have Dj := T.defs j dj ej2
    obtain ⟨ds, dvs, k1, k2, k3⟩ := Dj.bind dj.params.length (Nat.le_refl _) (by omega)
    have kd : dvs = [] := by
      have := k3 (fun _ => none)
      rw [List.drop_eq_nil_of_le (by omega)] at this
      exact this.nil_inv
    subst kd
    cases k1
    exact ⟨fa j, Dj.mg hg.1, Dj.kp, ⟨fd j, dj.params, 2 * n + 2, ih j dj ej2 hg.2, hr.mono (by omega), k2, fun _ _ _ _ _ _ _ h => (callF_hot ej2 hg.2 h).1⟩⟩
  · rw [if_neg hg] at ez; cases ez
theorem fn_okX {prog : Program} {w : World} {K : PySem.W.Frag} {mg : Str → Option Value} {base : Heap} {E : Env3} {P : List FD3} {gl : Gs} {gls xs : List Str} {cs : List (Str × List Bool)} {ocs : List OC3} {fl : List Str} {ics : List (Str × List Bool)} {xf : List (Option Str)} {xfl : List Str} {fa : Nat → Addr} {fd : Nat → FuncData}
    (T : TopOk prog w K mg E P gl gls xs cs ocs fl ics xf xfl fa fd) : ∀ (n i : Nat) (d : FD3), P[i]? = some d → d.hot = true → ∀ (a : Addr) (oe : Obj) (cn : Nat) (dd : Option Addr), Zc (.ref (E.cls cn)) dd oe → (∃ vs, oe.data = .fields vs) → XfOk K E cn →
      FnX prog w K mg base (2 * n + 2) (fa i) (fd i) d.params (spF E (fun ws g x q => callF P gl n i (.exc a cn dd :: ws) g x q) d.params.length) (a, oe)
  | 0, i, d, e, _, a, oe, cn, dd, _, _, _ => ⟨fun vs H Q X h => h.1, fun A out s H args us vs Q _ _ _ _ _ h => by obtain ⟨_, ws, g, q, x, _, _, h, _⟩ := h; exact h.elim⟩
  | n + 1, i, d, e, hhot, a, oe, cn, dd, hz, hf, hx => by
    have D := T.defs i d e
    obtain ⟨qual, params, body, scope, oc, od, dV, kV, doc, pm, an, cdv, ct, osl, e1, lk, hcd, S, hc⟩ := D.ex
    rw [e1] at lk ⊢
    refine ⟨fun vs H Q X h => h.1, fun A out s H args us vs Q hr hpin e0 hb hv hsp => ?_⟩
    have hl : vs.length = d.params.length := hsp.1
    have hin : K.In s.heap := e0.mod.kin.keeps fun b o z => (e0.bs b o z).1
    have room : ∀ f, L2H.RoomH (2 * n + 3) (A.deeper f) := fun f => L2H.RoomH.deeper (k := 2 * n + 3) hr f
    have param : ∀ y ∈ d.params.zip us, scope.names.lookup y.1 = some .local ∨ (scope.names.lookup y.1 = some .cell ∧ ((cellsFrom (s.heap.objs.size + 1) scope.names []).lookup y.1).isSome = true) := by
      rintro ⟨y, u⟩ hy
      exact (S.par y (List.of_mem_zip hy).1).imp id fun z => ⟨z, PySem.W.cellsFrom_some _ _ _ (.inl z)⟩
    refine codeAny_call_function hr.depth (hin _ _ lk) rfl S.co S.gen rfl (PySem.W.codeRec_of hin hcd) (hb _ _ _ _ (wpAny_newFunctionEnv_cells S.kind param ?_))
    rintro env rfl s1 lay
    refine ⟨(e0.mod.nolimit.keeps fun b o z => (e0.bs b o z).1).keeps lay.toInCall.keep, codeAny_func ?_⟩
    have walk := hot_body (base := base) T (n := n) (k := 2 * n + 3) hhot (qual := qual) (f := fa i) (cdv := cdv) S hc (A := A) (out := out) (s := s) (H := H) (a := a) hz hf hx (room _) (hot_calls0 T (fn_okX T n))
    obtain ⟨_, ws, g, q, x, r, hg, h, kq, kx⟩ := hsp
    obtain ⟨hlw, m, em, h⟩ := callF_hot e hhot h
    cases em
    have I := L2H.inv_startH (CX := L2.CX prog w) (qual := qual) (f := fa i) (cd := cdv) (E := fun _ _ _ => False) S hpin e0 hl hv lay
    have no : ∀ {s' : Sx} {g' : G} {σ' : L2.St} {H' : Hp}, KN E g H (fun _ _ => False) (fun (_ : L2.St) (_ : Hp) => False) := fun _ _ _ _ _ _ _ z => z
    have lift : liftS E w0 (svs (callF P gl n) { gl with su := some (a, cn, dd) } d.body) { nx := fun _ H' => Q .non H', rt := Q } (L2.start d.slots vs) H := by
      refine ⟨_, g, _, ?_, hg, h, ⟨fun s' g' σ' H' _ hg' f hq => rtS_kq hg kq .non g' .non H' hg' rv_non f hq, rtS_kq hg kq, fun _ _ _ _ _ _ _ z => z.elim, fun _ _ _ _ _ _ _ z => z.elim, fun _ _ _ _ _ _ _ _ _ _ _ _ z => z.elim⟩⟩
      have e3 : L2.start d.slots vs = vs.map some ++ List.replicate (d.slots.length - d.params.length) none := by unfold L2.start; rw [hl]
      rw [e3]
      exact SR.start _ r
    refine wpAny_mono (walk.run [] s1 _ H _ I lift) (fun fl s' hs => ?_) fun _ _ z => z
    have fin : ∀ {σ' : L2.St} {H' : Hp} {v : V} {u : Value}, Inv (L2H.cxH (L2.CX prog w) prog w K mg base d.slots qual scope (fa i) cdv A out s H (fun _ _ _ => False) (a, oe)) [] σ' H' s' → RelV v u → Q v H' → CE out prog w H s Q u s' := fun {σ' H' v u} J rv hq => ⟨v, H', J.os, J.bare, J.base, J.hok, rv, hq⟩
    cases fl with
    | ret u => obtain ⟨v, σ', H', J, rv, hq⟩ := hs; exact fin J rv hq
    | next => obtain ⟨σ', H', J, hq⟩ := hs; exact fin (v := V.non) (u := Value.none) J rfl hq
    | brk => obtain ⟨_, _, _, z⟩ := hs; exact False.elim z
    | cont => obtain ⟨_, _, _, z⟩ := hs; exact False.elim z
theorem hot_calls {prog : Program} {w : World} {K : PySem.W.Frag} {mg : Str → Option Value} {base : Heap} {E : Env3} {P : List FD3} {gl : Gs} {gls xs : List Str} {cs : List (Str × List Bool)} {ocs : List OC3} {fl : List Str} {ics : List (Str × List Bool)} {xf : List (Option Str)} {xfl : List Str} {fa : Nat → Addr} {fd : Nat → FuncData}
    (T : TopOk prog w K mg E P gl gls xs cs ocs fl ics xf xfl fa fd) {n : Nat} (X1 : Cx) (hr : L2H.RoomH (2 * n + 3) X1.A) (q1 : X1.prog = prog) (q2 : X1.w = w) (q3 : X1.K = K) (q4 : X1.mg = mg) (q5 : X1.base = base) : ∀ i x, (P.map fun d => if d.glob = true ∧ d.hot = true then some d.gn else none)[i]? = some (some x) → HCallOk X1 E (callF P gl n i) x :=
  hot_calls0 (base := base) T (fn_okX T n) X1 hr q1 q2 q3 q4 q5
theorem fn_ok {prog : Program} {w : World} {K : PySem.W.Frag} {mg : Str → Option Value} {base : Heap} {E : Env3} {P : List FD3} {gl : Gs} {gls xs : List Str} {cs : List (Str × List Bool)} {ocs : List OC3} {fl : List Str} {ics : List (Str × List Bool)} {xf : List (Option Str)} {xfl : List Str} {fa : Nat → Addr} {fd : Nat → FuncData}
    (T : TopOk prog w K mg E P gl gls xs cs ocs fl ics xf xfl fa fd) : ∀ (n i : Nat) (d : FD3), P[i]? = some d → d.hot = false → FnOk prog w K mg base (L2.CX prog w) (2 * n + 2) (fa i) (fd i) d.params (spF E (callF P gl n i) d.params.length)
  | 0, i, d, e, _ => ⟨fun vs H Q X h => h.1, fun A outer s H args us vs Q X hr he hb hv h => by obtain ⟨_, ws, g, q, x, _, _, h, _⟩ := h; exact h.elim⟩
  | n + 1, i, d, e, hnh => by
    have D := T.defs i d e
    obtain ⟨qual, params, body, scope, oc, od, dV, kV, doc, pm, an, cdv, ct, osl, e1, lk, hcd, S, hc⟩ := D.ex
    rw [e1] at lk ⊢
    show FnOk prog w K mg base (L2.CX prog w) ((2 * n + 3) + 1) _ _ _ _
    refine fn_of lk hcd S (fun vs H Q X h => h.1) fun A outer s H vs Q X hr h => ?_
    obtain ⟨hl, ws, g, q, x, r, hg, h, kq, kx⟩ := h
    have hlw : ws.length = d.params.length := by rw [← r.length]; exact hl
    have run : ∀ (X1 : Cx), Room (2 * n + 3) X1.A → ∀ j dj, P[j]? = some dj → dj.hot = false → X1.prog = prog → X1.w = w → X1.K = K → X1.mg = mg → X1.base = base → DefRun X1 E (callF P gl n j) (fa j) := by
      intro X1 hr1 j dj ej2 hdj e1 e2 e3 e4 e5
      subst e1 e2 e3 e4 e5
      have Dj := T.defs j dj ej2
      refine ⟨fd j, dj.params, 2 * n + 2, fn_ok T n j dj ej2 hdj, hr1, fun ws g x q h => ?_⟩
      obtain ⟨l1, l2, l3, h'⟩ := callF_full ej2 hdj h
      obtain ⟨ds, dvs, hd, hB, hR⟩ := Dj.bind ws.length l1 l2
      exact ⟨ds, dvs, _, hd, hB, fun H => by rw [← T.hK]; exact hR H, l3, h'⟩
    have ok : CkOk (ckOf P gls xs cs ocs fl ics xf xfl d scope) (cxOf (L2.CX prog w) prog w K mg base d.slots qual scope (fa i) cdv A outer s H X) E (fun cls d _ H' => X cls d H') (callF P gl n) gl := {
      hK := T.hK
      hN := rfl
      nd := S.nd
      sc := rfl
      kind := S.kind
      calm := fun _ => rfl
      stk := fun _ => ⟨rfl, rfl⟩
      cs := fun p h => T.cs p h _ rfl rfl
      su := fun h => absurd (hnh.symm.trans h) (by decide)
      fn := fun _ _ => rfl
      tk := takes_of rfl rfl rfl rfl
      pass := passes_of rfl
      hu := by
        show (A.deeper (PyProof.Rows.envOfC qual scope s.heap.objs.size (fa i) cdv)).units + 100 < cLine
        have := hr.un
        omega
      blt := T.blt
      gls := T.gls
      fns := fun _ j y ej => by
        have ej' : (P.map fun d => if d.glob = true ∧ d.hot = false then some d.gn else none)[j]? = some (some y) := ej
        rw [List.getElem?_map, Option.map_eq_some_iff] at ej'
        obtain ⟨dj, ej2, ez⟩ := ej'
        by_cases hz : dj.glob = true ∧ dj.hot = false
        · rw [if_pos hz] at ez
          cases ez
          have Dj := T.defs j dj ej2
          exact ⟨fa j, Dj.mg hz.1, Dj.kp, run _ hr j dj ej2 hz.2 rfl rfl rfl rfl rfl⟩
        · rw [if_neg hz] at ez; cases ez
      goc := T.goc
      cl := ⟨T.on, T.fl, T.cls, T.noat⟩
      ob := fun _ => ⟨fun c oc m i h1 h2 => by
        obtain ⟨k1, dj, k2, k9⟩ := T.meth c oc m i h1 h2
        exact ⟨fa i, k1, run _ hr i dj k2 k9 rfl rfl rfl rfl rfl⟩, fun c oc h1 => by
        obtain ⟨k1, k2, k4, dj, k3, k9⟩ := T.mkr c oc h1
        exact ⟨fa oc.init, k1, k2, run _ hr oc.init dj k3 k9 rfl rfl rfl rfl rfl, k4⟩⟩
      ics := fun p h => T.ics p h _ rfl rfl
      xs := fun _ c y ec X' e1 e2 e3 e4 => T.xs c y ec X' e1 e2 e3 e4
      xfl := T.xfl
      hw := fun h => absurd (hnh.symm.trans h) (by decide)
      room := fun _ _ => hr.mono (by omega)
      hfn := fun _ => hot_calls T _ ⟨hr.dp, hr.un⟩ rfl rfl rfl rfl rfl }
    refine ⟨_, s_ss d.body ok hc, ?_⟩
    unfold callF at h
    rw [e] at h
    simp only [hnh] at h
    have e2 : d.dflt.drop (d.dflt.length + ws.length - d.params.length) = [] := List.drop_eq_nil_of_le (by omega)
    simp only [e2, List.append_nil] at h
    refine ⟨_, g, _, ?_, hg, h.2, ⟨?_, ?_, ?_, ?_, ?_⟩⟩
    · have e3 : L2.start d.slots vs = vs.map some ++ List.replicate (d.slots.length - d.params.length) none := by unfold L2.start; rw [hl]
      rw [e3]
      exact SR.start _ r
    · intro s' g' σ' H' _ hg' f hq
      exact rtS_kq hg kq .non g' .non H' hg' rv_non f hq
    · exact rtS_kq hg kq
    · intro _ _ _ _ _ _ _ z; exact z.elim
    · intro _ _ _ _ _ _ _ z; exact z.elim
    · intro c fs s' g' σ' cls y H' _ hg' hx f hq
      rcases hq with hq | ⟨he, hq⟩
      · exact kx c fs g' cls y H' hg' hx f hq
      · exact kx c fs g cls y H' (hg'.sub he) hx (f.sub he) hq
def spLaw3 (K : PySem.W.Frag) : Sp := fun vs H Q _ => ∃ (a : Addr) (ns : List Int), vs = [.ref a] ∧ SqL K H a (ns.map V.int) ∧ ns.length ≤ 63 ∧ (∀ z ∈ ns, z.natAbs < 2 ^ 1048576) ∧ Only H ∧ ∀ H', Q (.bl true) H'
theorem law_fn {prog : Program} {w : World} {K : PySem.W.Frag} {mg : Str → Option Value} {base : Heap} {E : Env3} {P : List FD3} {gl : Gs} {gls xs : List Str} {cs : List (Str × List Bool)} {ocs : List OC3} {fl : List Str} {ics : List (Str × List Bool)} {xf : List (Option Str)} {xfl : List Str} {fa : Nat → Addr} {fd : Nat → FuncData}
    (T : TopOk prog w K mg E P gl gls xs cs ocs fl ics xf xfl fa fd) {n i : Nat} {d : FD3} (e : P[i]? = some d) (hnh : d.hot = false) (hd : d.params.length = 1)
    (law : ∀ ns : List Int, ns.length ≤ 63 → (∀ z ∈ ns, z.natAbs < 2 ^ 1048576) → callF P gl n i [.scr (ns.map W.int)] (fun _ => none) (fun _ _ _ => False) (fun v _ => v = .bl true)) :
    FnOk prog w K mg base (L2.CX prog w) (2 * n + 2) (fa i) (fd i) d.params (spLaw3 K) := by
  refine (fn_ok T n i d e hnh).imp fun vs H Q X h => ?_
  obtain ⟨a, ns, rfl, hS, hl, hbt, hO, k⟩ := h
  refine ⟨hd.symm, _, fun _ => none, _, _, RVs.cons ?_ RVs.nil, (fun _ _ z => by cases z), law ns hl hbt, ?_, fun _ _ _ _ _ _ _ _ _ z => z.elim⟩
  · rw [RV, ← T.hK]
    refine ⟨a, _, rfl, ?_, RVs.of_ints ns⟩
    rcases hS with (hS | ⟨o, hS⟩) | hS
    · rcases hO a with z | ⟨o, xs, z⟩
      · rw [z] at hS; cases hS
      · rw [z] at hS; cases hS
    · exact .inl ⟨o, hS⟩
    · exact .inr (.inr hS)
  · intro v g' u H' _ r _ hv
    subst hv
    rw [RV] at r; subst r
    exact k H'
end L3
namespace L3
open PySem L2
theorem law_end {prog : Program} {w : World} {H : Hp} {s : Shared} {e : Value} {s' : Shared} (z : L2.CX prog w [] H s (fun _ _ _ => False) e s') : False := by
  obtain ⟨_, _, _, _, _, _, _, _, _, _, _, _, z⟩ := z
  exact z
end L3
namespace L3
theorem drop_nil3 {K : PySem.W.Frag} {H : L2.Hp} (n : Nat) : RVs K H (([] : List W).drop n) [] := by rw [List.drop_nil]; exact .nil
end L3
set_option maxRecDepth 100000
set_option maxHeartbeats 4000000
namespace L3
open PySem L2
def DD (g0 : G) (x : XK3) (q : VK3) : Ends3 := { nx := fun _ g => rtS g0 q .non g, rt := rtS g0 q, bk := fun _ _ => False, ct := fun _ _ => False, ex := fun c fs _ g => exS g0 x c fs g }
theorem rtS_same {g : G} {q : VK3} {w : W} : rtS g q w g = q w g := propext ⟨fun h => h.elim id And.right, .inl⟩
theorem exS_same {g : G} {x : XK3} {c : Nat} {fs : List (Str × W)} : exS g x c fs g = x c fs g := propext ⟨fun h => h.elim id And.right, .inl⟩
theorem rt_drop {g0 g : G} {q : VK3} {w : W} (e : Ext g0 g) (h : q w g0) : rtS g0 q w g := .inr ⟨e, h⟩
theorem rt_keep {g0 g : G} {q : VK3} {w : W} (h : q w g) : rtS g0 q w g := .inl h
theorem gdel_gup {g : G} {p : Addr} {o : GO} (h : g p = none) : gdel (gup g p o) p = g := by
  funext b; unfold gdel gup
  by_cases z : b = p
  · subst z; simp [h]
  · simp [z]
theorem frzS_lst {g : G} {p : Addr} {xs : List W} {q : VK3} (h : g p = some (.lst xs)) : frzS (.ref p) g q = q (.lv xs) (gdel g p) := by simp [frzS, h]
theorem frzS_gup {g : G} {p : Addr} {xs : List W} {q : VK3} : frzS (.ref p) (gup g p (.lst xs)) q = q (.lv xs) (gdel (gup g p (.lst xs)) p) := frzS_lst gup_same
theorem newF {g : G} {xs : List W} {q : VK3} (h : q (.lv xs) g) : newL g xs (fun w g1 => frzS w g1 q) := fun p hp => by
  show frzS (.ref p) (gup g p (.lst xs)) q
  rw [frzS_gup, gdel_gup hp]; exact h
section
variable {g : G} {q : VK3} {i : Int} {b : Bool} {x : Str} {xs : List W}
theorem frzS_int : frzS (.int i) g q = q (.int i) g := rfl
theorem frzS_bl : frzS (.bl b) g q = q (.bl b) g := rfl
theorem frzS_str : frzS (.str x) g q = q (.str x) g := rfl
theorem frzS_non : frzS .non g q = q .non g := rfl
theorem frzS_tup : frzS (.tup xs) g q = q (.tup xs) g := rfl
theorem frzS_lv : frzS (.lv xs) g q = q (.lv xs) g := rfl
theorem frzS_scr : frzS (.scr xs) g q = q (.scr xs) g := rfl
theorem seqAt_lv {k : List W → Prop} : seqAt g (.lv xs) k = k xs := rfl
end
theorem frzI_0 {o : W} {s : Sx} {g : G} {k : Sx → G → Prop} : frzI 0 (some o :: s) g k = frzS o g (fun w g1 => k (some w :: s) g1) := by
  unfold frzI frzS
  simp only [List.getElem?_cons_zero]
  cases o <;> rfl
theorem frzI_s {i : Nat} {o : Option W} {s : Sx} {g : G} {k : Sx → G → Prop} : frzI (i + 1) (o :: s) g k = frzI i s g (fun s' g1 => k (o :: s') g1) := by
  unfold frzI
  simp only [List.getElem?_cons_succ]
  cases s[i]? with
  | none => rfl
  | some u =>
    cases u with
    | none => rfl
    | some w => cases w <;> rfl
section
variable {CF : CF3} {gl : Gs}
theorem eVar_0 {x : XK3} {a : W} {s : Sx} {g : G} {q : VK3} : eVar 0 x (some a :: s) g q = q a g := by simp [eVar]
theorem eVar_s {x : XK3} {i : Nat} {o : Option W} {s : Sx} {g : G} {q : VK3} : eVar (i + 1) x (o :: s) g q = eVar i x s g q := by simp [eVar]
theorem ex_int {i : Int} {p : Int → Prop} : (∃ j, W.int i = W.int j ∧ p j) = p i := by simp
theorem ex_bl {i : Bool} {p : Bool → Prop} : (∃ j, W.bl i = W.bl j ∧ p j) = p i := by simp
theorem ex_str {i : Str} {p : Str → Prop} : (∃ j, W.str i = W.str j ∧ p j) = p i := by simp
theorem seqAt_tup {g : G} {xs : List W} {k : List W → Prop} : seqAt g (.tup xs) k = k xs := rfl
theorem seqAt_scr {g : G} {xs : List W} {k : List W → Prop} : seqAt g (.scr xs) k = k xs := rfl
theorem seqAt_ref {g : G} {a : Addr} {k : List W → Prop} : seqAt g (.ref a) k = lstAt g a k := rfl
theorem xor_f {b : Bool} : xor false b = b := by simp
theorem xor_t {b : Bool} : xor true b = !b := by simp
theorem wh {c : E3} {body : Ss3} {D : Ends3} {s : Sx} {g : G} (I : Sx → G → Prop) (μ : Sx → Nat) (h0 : I s g)
    (h : ∀ s g, I s g → bT (ev CF gl c) (D.xk s) s g fun b g1 => if b = true then svs CF gl body { D with nx := fun s' g' => μ s' < μ s ∧ I s' g', ct := fun s' g' => μ s' < μ s ∧ I s' g', bk := D.nx } s g1 else D.nx s g1) :
    sv CF gl (.while_ c body) D s g := by
  refine ⟨fun m s g => m = μ s ∧ I s g, ⟨_, rfl, h0⟩, ?_⟩
  rintro m s g ⟨rfl, hi⟩
  have e : (fun s' g' => ∃ m', m' < μ s ∧ (m' = μ s' ∧ I s' g')) = fun s' g' => μ s' < μ s ∧ I s' g' := by
    funext s' g'
    refine propext ⟨?_, ?_⟩
    · rintro ⟨m', h1, rfl, h2⟩; exact ⟨h1, h2⟩
    · rintro ⟨h1, h2⟩; exact ⟨_, h1, rfl, h2⟩
  show bT (ev CF gl c) (D.xk s) s g fun b g1 => if b = true then svs CF gl body { D with nx := fun s' g' => ∃ m', m' < μ s ∧ (m' = μ s' ∧ I s' g'), ct := fun s' g' => ∃ m', m' < μ s ∧ (m' = μ s' ∧ I s' g'), bk := D.nx } s g1 else D.nx s g1
  rw [e]
  exact h s g hi
end
theorem mul_ok {i j : Int} {a b : Nat} (ha : i.natAbs < 2 ^ a) (hb : j.natAbs < 2 ^ b) (h : a + b ≤ 134217728) : IntMulOk i j := (mulx_ok ha hb h).ok
theorem pow_ok {i j : Int} {n : Nat} (h : i.natAbs < 2 ^ n) (h0 : 0 ≤ j) (hn : (n : Int) * j ≤ 134217728) : 0 ≤ j ∧ (Builtin.Int.intBits i : Int) * j ≤ 2 ^ 27 := by
  refine ⟨h0, ?_⟩
  have b : (Builtin.Int.intBits i : Int) ≤ n := by have := PyProof.Rows.intBits_le h; omega
  have e : (2 : Int) ^ 27 = 134217728 := by decide
  rw [e]
  exact Int.le_trans (Int.mul_le_mul_of_nonneg_right b h0) hn
theorem div_ok {i j : Int} {n : Nat} (h0 : j ≠ 0) (h : j.natAbs < 2 ^ n) (hn : n ≤ 9000) : j ≠ 0 ∧ Builtin.divisionGoesByPylong i j = false := by
  refine ⟨h0, PyProof.noPylong_of_log2 ?_⟩
  have hp : j.natAbs ≠ 0 := by omega
  have : j.natAbs.log2 < n := (Nat.log2_lt hp).mpr h
  omega
theorem div_small {i j : Int} (h0 : j ≠ 0) (h : j.natAbs < 1073741824) : j ≠ 0 ∧ Builtin.divisionGoesByPylong i j = false := ⟨h0, PyProof.noPylong_small h⟩
theorem bits_mul {i j : Int} {a b : Nat} (ha : i.natAbs < 2 ^ a) (hb : j.natAbs < 2 ^ b) : (i * j).natAbs < 2 ^ (a + b) := by
  rw [Int.natAbs_mul, Nat.pow_add]
  exact Nat.mul_lt_mul'' ha hb
end L3
namespace L3
open PySem L2
theorem atI_n {α : Type} {xs : List α} {k : Nat} : atI xs (k : Int) = xs[k]? := by
  unfold atI ixN
  rw [if_pos (Int.natCast_nonneg k)]
  by_cases h : k < xs.length
  · rw [if_pos (by omega)]; simp
  · rw [if_neg (by omega)]; simp at h; simp [h]
theorem fmod_pos {a b : Int} (h : 0 < b) : a.fmod b = a % b := Int.fmod_eq_emod_of_nonneg a (Int.le_of_lt h)
theorem gcd_fmod (x y : Int) : Int.gcd y (x.fmod y) = Int.gcd x y := by
  rw [Int.fmod_def, Int.gcd_comm y, Int.mul_comm y, Int.gcd_sub_mul_right_left]
theorem fmod_lt (x : Int) {y : Int} (h : y ≠ 0) : (x.fmod y).natAbs < y.natAbs := by
  have h1 := Int.emod_nonneg x h
  have h2 := Int.emod_lt x h
  rw [Int.fmod_eq_emod]
  split
  · simp; omega
  · rename_i hn
    have h3 : x % y ≠ 0 := fun z => hn (.inr (Int.dvd_of_emod_eq_zero z))
    have h4 : ¬ 0 ≤ y := fun z => hn (.inl z)
    omega
end L3
namespace L3
open PySem L2
section
variable {T : String} {g : G} {q : VK3}
theorem isiS_int {i : Int} : isiS T (.int i) g q = q (.bl (isiB "int" T)) g := by simp [isiS, tyNm]
theorem isiS_bl {i : Bool} : isiS T (.bl i) g q = q (.bl (isiB "bool" T)) g := by simp [isiS, tyNm]
theorem isiS_str {i : Str} : isiS T (.str i) g q = q (.bl (isiB "str" T)) g := by simp [isiS, tyNm]
theorem isiS_non : isiS T .non g q = q (.bl (isiB "NoneType" T)) g := by simp [isiS, tyNm]
theorem isiS_tup {i : List W} : isiS T (.tup i) g q = q (.bl (isiB "tuple" T)) g := by simp [isiS, tyNm]
theorem isiS_lv {i : List W} : isiS T (.lv i) g q = q (.bl (isiB "list" T)) g := by simp [isiS, tyNm]
theorem isiS_scr {i : List W} : isiS T (.scr i) g q = q (.bl (isiB "list" T)) g := by simp [isiS, tyNm]
end
theorem isi_ii : isiB "int" "int" = true := by decide
theorem isi_ib : isiB "int" "bool" = false := by decide
theorem isi_bb : isiB "bool" "bool" = true := by decide
theorem isi_bi : isiB "bool" "int" = true := by decide
theorem isi_tt : isiB "tuple" "tuple" = true := by decide
theorem isi_ll : isiB "list" "list" = true := by decide
theorem isi_ss : isiB "str" "str" = true := by decide
theorem isi_dd : isiB "dict" "dict" = true := by decide
theorem isi_si : isiB "str" "int" = false := by decide
theorem isi_ni : isiB "NoneType" "int" = false := by decide
theorem isi_ti : isiB "tuple" "int" = false := by decide
theorem isi_li : isiB "list" "int" = false := by decide
theorem isi_di : isiB "dict" "int" = false := by decide
theorem isi_lt : isiB "list" "tuple" = false := by decide
theorem isi_it : isiB "int" "tuple" = false := by decide
theorem isi_nt : isiB "NoneType" "tuple" = false := by decide
theorem isi_st : isiB "str" "tuple" = false := by decide
theorem isi_bt : isiB "bool" "tuple" = false := by decide
theorem if_t {a b : Prop} : (if true = true then a else b) = a := by simp
theorem if_f {a b : Prop} : (if false = true then a else b) = b := by simp
end L3
namespace L3
section
variable {CF : CF3} {gl : Gs}
theorem st_of {b : Ss3} {st : S3} {ss : Ss3} {D : Ends3} {s : Sx} {g : G} (e : b = .cons st ss) (h : sv CF gl st { D with nx := svs CF gl ss D } s g) : svs CF gl b D s g := by subst e; exact h
theorem st_K {b : Ss3} {st : S3} {ss : Ss3} {D : Ends3} {s : Sx} {g : G} (e : b = .cons st ss) (h : ∀ K : Sx → G → Prop, (∀ s g, svs CF gl ss D s g → K s g) → sv CF gl st { D with nx := K } s g) : svs CF gl b D s g := by subst e; exact h _ fun _ _ h => h
theorem nl_of {D : Ends3} {s : Sx} {g : G} (h : D.nx s g) : svs CF gl .nil D s g := h
end
end L3
set_option maxRecDepth 100000
set_option maxHeartbeats 4000000
namespace L3
open PySem PySem.Spec L2
def xiOf : List Stmt → Option (Str × Str × Str × Str)
  | [.Expr (.Call (.Attribute (.Name y _) m ap) [.Name s1 _, .Constant (.str _) _ _] [] p) _, .Assign [.Attribute (.Name s2 _) fld _] (.Name par _) _] =>
    if decide (m = ("__init__" : Str)) && (ap.endLine == p.line) && decide (s1 = s2) then some (y, s1, fld, par) else none
  | _ => none
theorem xiOf_inv {b : List Stmt} {y sf fld par : Str} (h : xiOf b = some (y, sf, fld, par)) : ∃ q1 ap q2 z j q3 p q4 q5 q6 q7 q8,
    b = [.Expr (.Call (.Attribute (.Name y q1) "__init__" ap) [.Name sf q2, .Constant (.str z) j q3] [] p) q4, .Assign [.Attribute (.Name sf q5) fld q6] (.Name par q7) q8] ∧ (ap.endLine == p.line) = true := by
  unfold xiOf at h
  split at h
  · split at h
    · rename_i c
      obtain ⟨c, c3⟩ := bool_and c
      obtain ⟨c1, c2⟩ := bool_and c
      cases h
      have e1 := of_decide_eq_true c1
      have e3 := of_decide_eq_true c3
      subst e1 e3
      exact ⟨_, _, _, _, _, _, _, _, _, _, _, _, rfl, c2⟩
    · cases h
  · cases h
structure BaseRd (K : PySem.W.Frag) (C : Addr) : Prop where
  rd : PySem.W.readsIn K C (.type "type") = true
  ga : PySem.W.specialIn K (.ref C) "__getattribute__" = some (some (.builtin "type.__getattribute__"))
  at_ : PySem.W.findCls K (.ref C) (.type "type") "__init__" = some (.val (.builtin "ValueError.__init__"))
section
variable {X : Cx} {sf par y fld z : Str} {C B : Addr}
theorem pe_binit {q1 ap q2 q3 p : Pos} {j : Nat} (gy : Gl X y) (gd : (y == ("__debug__" : Str)) = false) (hm : X.mg y = some (.ref B)) (R : BaseRd X.K B) (T : OexC X.K C) (pv : PE X (.Name sf q2) (tVar 0)) (hl : (ap.endLine == p.line) = true) :
    PE X (.Call (.Attribute (.Name y q1) "__init__" ap) [.Name sf q2, .Constant (.str z) j q3] [] p) (fun σ H Q => ∃ a, σ[0]? = some (some (.ref a)) ∧ H a = some (exo a C none) ∧ Q .non H) := by
  refine ⟨fun pins s σ H Q I ⟨a, e0, ea, hq⟩ => ?_⟩
  have hp : ∀ u ∈ [Expr.Name sf q2, .Constant (.str z) j q3], plainE u = true := by simp [plainE]
  refine PySem.W.methodCall_KW (ld_glob I gy hm ?_ gd) (ev_meth3 rfl (few3 (by simp) hp) hl)
  refine PySem.W.method_cls I.kIn R.ga (PySem.W.cls_value I.kIn R.rd R.at_ rfl ?_)
  have I1 : Inv X pins σ H { s with toks := s.toks + 1 } := I.tok _
  have ha : PA X [.Name sf q2, .Constant (.str z) j q3] (tCons (tVar 0) (tCons (tC (.str z)) tNil)) := pa_cons pv (pa_cons pe_str pa_nil rfl) rfl
  refine PyProof.Rows.callWith_method1 (thn (ha.run p pins _ σ H (fun us H1 => us = [.ref a, .str z] ∧ H1 = H) I1 ⟨_, e0, rfl, rfl⟩) fun us s1 ⟨vs, H1, I2, r, ev, eH⟩ => ?_) rfl rfl
  subst ev eH
  cases r with
  | cons r1 r2 =>
    cases r1
    exact oinit_ok T I2 ea (by
      rw [← Paired.length r2, sizeLine_eq]
      show 1 ≤ _
      omega) fun s' J => ⟨.non, _, J, rfl, hq⟩
structure XfK (K : PySem.W.Frag) (mg : Str → Option Value) (x f : Str) (C fI : Addr) (fd : FuncData) : Prop where
  T : OexC K C
  iC : PySem.W.findIn K (.ref C) "__init__" = some (some (.ref fI))
  tI : PySem.W.typeIn K (.ref fI) = some (.type "function")
  no : PySem.W.findIn K (.ref C) f = some none
  mx : mg x = some (.ref C)
  ex : ∃ (y sf par qual : Str) (params : Arguments) (body : List Stmt) (scope : Scope) (B : Addr), FunD K "__init__" qual params body scope [] [] fI fd ∧ xiOf body = some (y, sf, f, par) ∧ FnScope [sf, par] [sf, par] scope ∧ scope.names.lookup sf = some .local ∧ scope.names.lookup par = some .local ∧
    scope.names.lookup y = some .globalImplicit ∧ nmOk y = true ∧ nmOk sf = true ∧ nmOk par = true ∧ mg y = some (.ref B) ∧ BaseRd K B ∧ Binds K fd [sf, par] []
theorem xinit_ok {prog : Program} {w : World} {K : PySem.W.Frag} {mg : Str → Option Value} {base : Heap} {x f : Str} {C fI : Addr} {fd : FuncData} (F : XfK K mg x f C fI fd) : ∃ ps, FnOk prog w K mg base (L2.CX prog w) 1 fI fd ps (spI C f) ∧ Binds K fd ps [] := by
  obtain ⟨y, sf, par, qual, params, body, scope, B, D, hb, S, l1, l2, l3, n1, n2, n3, my, R, hB⟩ := F.ex
  obtain ⟨q1, ap, q2, z, j, q3, p, q4, q5, q6, q7, q8, rfl, hl⟩ := xiOf_inv hb
  refine ⟨[sf, par], D.ok (k := 0) S (fun vs H Q E h => by obtain ⟨a, v, rfl, _⟩ := h; rfl) fun cdv A outer s H vs Q E hr hsp => ?_, hB⟩
  obtain ⟨a, v, rfl, ea, hq⟩ := hsp
  obtain ⟨d1, d2⟩ := nm_1 n2
  obtain ⟨d3, d4⟩ := nm_1 n3
  have pv : ∀ p, PE (cxOf (L2.CX prog w) prog w K mg base [sf, par] qual scope fI cdv A outer s H E) (.Name sf p) (tVar 0) := fun p => pe_var rfl (.inl l1) d1 d2
  have pp : ∀ p, PE (cxOf (L2.CX prog w) prog w K mg base [sf, par] qual scope fI cdv A outer s H E) (.Name par p) (tVar 1) := fun p => pe_var rfl (.inl l2) d3 d4
  refine ⟨_, pss_cons (ps_expr (pe_binit l3 (nm_1 n1).1 my R F.T (pv _) hl) (swaps_no rfl _)) (pss_cons (ps_ost (pv _) (pp _) (swaps_no rfl _)) pss_nil), ?_⟩
  refine ⟨a, rfl, ea, ?_⟩
  refine ⟨v, rfl, .ref a, rfl, a, C, rfl, F.T, F.no, .inl ⟨ea, fun dx h1 h2 => ?_⟩⟩
  exact hq dx h1 h2
theorem raiseF_of {X : Cx} {E : Env3} {c : Nat} {x f : Str} {C fI : Addr} {fd : FuncData} (F : XfK X.K X.mg x f C fI fd) (hE : E.cls c = C) (hr : Room 2 X.A) : RaiseFOk X E c x f := by
  obtain ⟨ps, F1, hB⟩ := xinit_ok (prog := X.prog) (w := X.w) (base := X.base) F
  refine ⟨fun hg hd e t p pos he hp => ?_⟩
  subst hE
  exact pmk_oex (p := p) (pos := pos) F.T F.iC F.tI F1 hr hB .nil (fun pins σ H s e' s' I z => by
    obtain ⟨_, _, _, _, _, _, _, _, _, _, _, _, z⟩ := z
    exact z.elim) hg F.mx (pa_cons he pa_nil (star_plain hp)) hd (star_plain hp) rfl
end
def oexB (K : PySem.W.Frag) (C : Addr) : Bool := match K.lookup C with
  | some o => (match o.cls, o.data, o.slots.toList with
    | .type t, .cls cd, [_, _, _, _, some (.builtin n), _] => (match cd.mro with
      | .ref D :: bm => decide (t = "type") && (decide (D = C) && (decide (n = "ValueError.__new__") && (!cd.hasDel && (cd.hasDict && HandSPX.refsVE bm))))
      | _ => false)
    | _, _, _ => false)
  | none => false
theorem oexB_ok {K : PySem.W.Frag} {C : Addr} (h : oexB K C = true) : ∃ nm q N bs bm sn sub ab col dd k0 k1 k2 k3 k5, K.lookup C = some (excClassObj nm q C N bs bm true sn sub ab col dd k0 k1 k2 k3 k5 "ValueError.__new__") ∧ HandSPX.refsVE bm = true := by
  unfold oexB at h
  cases e : List.lookup C K with
  | none => rw [show K.lookup C = none from e] at h; cases h
  | some o =>
    rw [show K.lookup C = some o from e] at h
    obtain ⟨oc, od, oda, ⟨sl⟩⟩ := o
    dsimp only at h
    split at h
    · rename_i xa xb xc t cd k0 k1 k2 k3 n k5
      split at h
      · rename_i D bm e4
        obtain ⟨h1, h⟩ := bool_and h
        obtain ⟨h2, h⟩ := bool_and h
        obtain ⟨h3, h⟩ := bool_and h
        obtain ⟨h4, h⟩ := bool_and h
        obtain ⟨h5, h6⟩ := bool_and h
        have h1 := of_decide_eq_true h1
        have h2 := of_decide_eq_true h2
        have h3 := of_decide_eq_true h3
        have h4' := bool_not h4
        subst h1 h2 h3
        obtain ⟨nm, bs, mro, ns, qn, hd, sn, sub, ab, col, del⟩ := cd
        have h4' : del = false := h4'
        have h5' : hd = true := h5
        try dsimp only at e4
        subst e4 h4' h5'
        exact ⟨nm, qn, ns, bs, bm, sn, sub, ab, col, od, k0, k1, k2, k3, k5, rfl, h6⟩
      · cases h
    · cases h
def eqv1 (a b : Option (Option Value)) : Bool := decide (a = b)
def valB (r : Option PySem.W.CFound) (n : String) : Bool := match r with
  | some (.val (.builtin b)) => decide (b = n)
  | _ => false
theorem valB_ok {r : Option PySem.W.CFound} {n : String} (h : valB r n = true) : r = some (.val (.builtin n)) := by
  unfold valB at h
  split at h
  · rw [of_decide_eq_true h]
  · cases h
def xfkB (K : PySem.W.Frag) (x y f : Str) : Bool :=
  oexB K (He.ga K x) && (eqv1 (PySem.W.findIn K (.ref (He.ga K x)) "__setattr__") (some (some (.builtin "object.__setattr__"))) && (decide (PySem.W.subIn K (.ref (He.ga K x)) (.type "BaseException") = some true) && (decide (PySem.W.typeIn K (.ref (He.ga K x)) = some (.type "type")) &&
  (PySem.W.keepIn K (.ref (He.ga K x)) && (eqv1 (PySem.W.findIn K (.ref (He.ga K x)) "__init__") (some (some (.ref (He.ma K (He.ga K x) "__init__")))) && (decide (PySem.W.typeIn K (.ref (He.ma K (He.ga K x) "__init__")) = some (.type "function")) &&
  (eqv1 (PySem.W.findIn K (.ref (He.ga K x)) f) (some none) && (eqv1 (PySem.W.nsIn K mainGlobals x) (some (some (.ref (He.ga K x)))) && (eqv1 (PySem.W.nsIn K mainGlobals y) (some (some (.ref (He.ga K y)))) &&
  (PySem.W.readsIn K (He.ga K y) (.type "type") && (eqv1 (PySem.W.specialIn K (.ref (He.ga K y)) "__getattribute__") (some (some (.builtin "type.__getattribute__"))) && valB (PySem.W.findCls K (.ref (He.ga K y)) (.type "type") "__init__") "ValueError.__init__")))))))))))
theorem xfk_of {K : PySem.W.Frag} {mg : Str → Option Value} {h : Heap} (Xi : K.In h) (G : h.Ns mainGlobals mg) {x y f sf par qual : Str} {params : Arguments} {body : List Stmt} {scope : Scope} {fd : FuncData} (c : xfkB K x y f = true) (D : FunD K "__init__" qual params body scope [] [] (He.fAd K (x, some "__init__")) fd) (hb : xiOf body = some (y, sf, f, par)) (S : FnScope [sf, par] [sf, par] scope)
    (l : (decide (scope.names.lookup sf = some .local) && (decide (scope.names.lookup par = some .local) && (decide (scope.names.lookup y = some .globalImplicit) && (nmOk y && (nmOk sf && nmOk par))))) = true) (hB : Binds K fd [sf, par] []) : XfK K mg x f (He.ga K x) (He.fAd K (x, some "__init__")) fd := by
  obtain ⟨c1, c⟩ := bool_and c
  obtain ⟨c2, c⟩ := bool_and c
  obtain ⟨c3, c⟩ := bool_and c
  obtain ⟨c4, c⟩ := bool_and c
  obtain ⟨c5, c⟩ := bool_and c
  obtain ⟨c6, c⟩ := bool_and c
  obtain ⟨c7, c⟩ := bool_and c
  obtain ⟨c8, c⟩ := bool_and c
  obtain ⟨c9, c⟩ := bool_and c
  obtain ⟨c10, c⟩ := bool_and c
  obtain ⟨c11, c⟩ := bool_and c
  obtain ⟨c12, c13⟩ := bool_and c
  obtain ⟨l1, l⟩ := bool_and l
  obtain ⟨l2, l⟩ := bool_and l
  obtain ⟨l3, l⟩ := bool_and l
  obtain ⟨l4, l⟩ := bool_and l
  obtain ⟨l5, l6⟩ := bool_and l
  exact ⟨⟨oexB_ok c1, of_decide_eq_true c2, of_decide_eq_true c3, of_decide_eq_true c4, c5⟩, of_decide_eq_true c6, of_decide_eq_true c7, of_decide_eq_true c8, PySem.W.mg_of Xi G (of_decide_eq_true c9),
    y, sf, par, qual, params, body, scope, He.ga K y, D, hb, S, of_decide_eq_true l1, of_decide_eq_true l2, of_decide_eq_true l3, l4, l5, l6, PySem.W.mg_of Xi G (of_decide_eq_true c10), ⟨c11, of_decide_eq_true c12, valB_ok c13⟩, hB⟩
end L3
set_option maxRecDepth 100000
set_option maxHeartbeats 4000000
namespace L3
open PySem PySem.Spec L2
section
variable {K : PySem.W.Frag} {mg : Str → Option Value} {P : List FD3} {gls xs : List Str} {cs : List (Str × List Bool)} {ocs : List OC3} {fl : List Str} {ics : List (Str × List Bool)} {xf : List (Option Str)} {xfl : List Str} {d : FD3} {st : Stmt} {q : Str} {f : Addr} {fd : FuncData} {dvs : List V}
theorem defOk_N (F : FunD K d.name q (defArgs st) (defBody st) (defScope st) [] [] f fd) (S : FnScope d.slots d.params (defScope st)) (hc : chkSs d.body (ckOf P gls xs cs ocs fl ics xf xfl d (defScope st)) (defBody st) = true) (g : d.glob = true → mg d.gn = some (.ref f)) (hd : d.dflt = [])
    (hb : ∀ (kV doc pm : Value) (an : Option Addr) (cdv ct : Value) (us : List Value), us.length = d.params.length → bindArgs (PySem.W.fnOf d.name q (defArgs st) (defBody st) (defScope st) .none kV doc pm an cdv ct) ⟨us, []⟩ = pure (d.params.zip us)) : DefOk K mg P gls xs cs ocs fl ics xf xfl d f fd := by
  have hB := F.bindsN hb
  have kp := F.kp
  obtain ⟨oc, od, dV, kV, doc, pm, an, cdv, ct, osl, e, lk, hcd, _, _⟩ := F.ex
  refine ⟨⟨q, _, _, _, oc, od, dV, kV, doc, pm, an, cdv, ct, osl, e, lk, hcd, S, hc⟩, kp, g, fun m h1 h2 => ⟨[], [], .nil, hB, fun H => ?_⟩⟩
  rw [hd]
  exact drop_nil3 _
theorem defOk_D (F : FunD K d.name q (defArgs st) (defBody st) (defScope st) dvs [] f fd) (S : FnScope d.slots d.params (defScope st)) (hc : chkSs d.body (ckOf P gls xs cs ocs fl ics xf xfl d (defScope st)) (defBody st) = true) (g : d.glob = true → mg d.gn = some (.ref f))
    (hd : dvs ≠ []) (hn : dvs.length = d.dflt.length) (hr : ∀ H n, RVs K H (d.dflt.drop n) (dvs.drop n))
    (hb : ∀ m, m ≤ d.params.length → d.params.length ≤ m + dvs.length → ∀ (T : Addr) (kV doc pm : Value) (an : Option Addr) (cdv ct : Value) (us its : List Value), us.length = m → its.length = dvs.length →
      ∃ k, bindArgs (PySem.W.fnOf d.name q (defArgs st) (defBody st) (defScope st) (.ref T) kV doc pm an cdv ct) ⟨us, []⟩ = seqItems? (.ref T) >>= k ∧ k (some its.toArray) = pure (d.params.zip (us ++ its.drop (dvs.length + m - d.params.length)))) : DefOk K mg P gls xs cs ocs fl ics xf xfl d f fd := by
  have kp := F.kp
  have hB := fun m h1 h2 => F.binds1 (ps := d.params) m (dvs.length + m - d.params.length) hd (by omega) (hb m h1 h2)
  obtain ⟨oc, od, dV, kV, doc, pm, an, cdv, ct, osl, e, lk, hcd, _, _⟩ := F.ex
  refine ⟨⟨q, _, _, _, oc, od, dV, kV, doc, pm, an, cdv, ct, osl, e, lk, hcd, S, hc⟩, kp, g, fun m h1 h2 => ?_⟩
  rw [← hn] at h2
  obtain ⟨ds, v, b⟩ := hB m h1 h2
  refine ⟨ds, _, v, b, fun H => ?_⟩
  rw [← hn]
  exact hr H _
theorem gl_str {E : Env3} {h : Heap} {x z : Str} (X : K.In h) (G : h.Ns mainGlobals mg) (c : (He.Fa.str x z).ok K = true) : ∃ u v, mg x = some u ∧ RelV v u ∧ ∀ H, RV E.K H (.str z) v := by
  obtain ⟨t, e⟩ := He.str_ok X G c
  exact ⟨_, .str z, e, ⟨t, rfl⟩, fun H => rv_str⟩
theorem gl_int {E : Env3} {h : Heap} {x : Str} {z : Int} (X : K.In h) (G : h.Ns mainGlobals mg) (c : (He.Fa.int x z).ok K = true) : ∃ u v, mg x = some u ∧ RelV v u ∧ ∀ H, RV E.K H (.int z) v := by
  obtain ⟨t, e⟩ := He.int_ok X G c
  exact ⟨_, .int z, e, ⟨t, rfl⟩, fun H => rv_int⟩
theorem gls_nil {E : Env3} {gl : Nat → W} : ∀ i x, ([] : List Str)[i]? = some x → ∃ u v, mg x = some u ∧ RelV v u ∧ ∀ H, RV E.K H (gl i) v := fun i x e => by simp at e
theorem gls_cons {E : Env3} {y : Str} {l : List Str} {gl : Nat → W} (h : ∃ u v, mg y = some u ∧ RelV v u ∧ ∀ H, RV E.K H (gl 0) v) (r : ∀ i x, l[i]? = some x → ∃ u v, mg x = some u ∧ RelV v u ∧ ∀ H, RV E.K H (gl (i + 1)) v) :
    ∀ i x, (y :: l)[i]? = some x → ∃ u v, mg x = some u ∧ RelV v u ∧ ∀ H, RV E.K H (gl i) v
  | 0, x, e => by simp at e; subst e; exact h
  | i + 1, x, e => r i x (by simpa using e)
end
end L3
namespace L3
open PySem PySem.Spec L2
theorem bits_lt {z : Int} {n : Nat} (h : Builtin.Int.intBits z ≤ n) : z.natAbs < 2 ^ n := by
  exact intBits_le_iff.mp h
theorem walk3 {lw : PySem.W.OpenLaw} {lv : Nat} {vw : Program} {lo : List Str} {XP : (Str → Option Value) → Heap → Prop} {YP : World → Heap → Prop} {dr : DefRec} {par : Str}
    (most : lw.most = some 63) (nodf : dr.params.defaults = []) (room : Room lv callerA)
    (F : ∀ (w : World) (mg : Str → Option Value) (fa : Addr) (h : Heap), YP w h → h.Ns mainGlobals mg → mg dr.name = some (.ref fa) →
      ∃ (K : PySem.W.Frag) (fd : FuncData), K.In h ∧ (∀ (s : Shared) (u : Value), BindsTo s fd ⟨[u], []⟩ [(par, u)]) ∧
        ∀ base : Heap, K.In base → base.Ns mainGlobals mg → FnOk lw.prog w K mg base (L2.CX lw.prog w) lv fa fd [par] (spLaw3 K)) :
    PySem.W.WalkO vw lo XP YP lw.row.toRowW dr [] (fun f vs => PySem.call f vs) := by
  refine Att.attach_callB most nodf fun w s₀ st mg mb fa obj pm cdv doc adr vs zs GG YY h1 h2 h3 hmg h4 h5 h6 h8 h7 => ?_
  have ⟨K, fd, hK, hb, hF⟩ := F w mg fa _ YY GG.T.g hmg
  refine law_call hK GG.T.g GG.T.b GG.T.builtins GG.T.nolimit h7 h4 h5 (Nat.le_trans h6 (by decide)) room hF hb (fun H hO hS => ?_) fun H e s' z => law_end z
  exact ⟨adr, zs, rfl, hS, h6, fun z hz => bits_lt (h8 z hz), hO, fun _ => rfl⟩
theorem rvs_drop {K : PySem.W.Frag} {xs : List W} {vs : List V} (h : ∀ H, RVs K H xs vs) : ∀ H n, RVs K H (xs.drop n) (vs.drop n) := fun H n => (h H).drop n
end L3
namespace L3
open PySem PySem.Spec L2
def clsE (K : PySem.W.Frag) (xs : List Str) : Nat → Addr := fun c => He.ga K (xs.getD c "")
def clsVal (K : PySem.W.Frag) (y : Str) : Option String → V
  | none => .ref (He.ga K y)
  | some T => .ty T
def clsValue (K : PySem.W.Frag) (y : Str) : Option String → Value
  | none => .ref (He.ga K y)
  | some T => .type T
def eqs (a b : Option (Option Value)) : Bool := decide (a = b)
def excCB (K : PySem.W.Frag) (D : Addr) : Bool := eqs (PySem.W.findIn K (.ref D) "__getattribute__") (some (some (.builtin "BaseException.__getattribute__"))) && (eqs (PySem.W.findIn K (.ref D) "__getattr__") (some none) &&
  (decide (PySem.W.subIn K (.ref D) (.type "BaseException") = some true) && (PySem.W.hasDictIn K D && (eqs (PySem.W.findIn K (.ref D) "__class__") (some (some (.builtin "object.__class__"))) &&
  (eqs (PySem.W.specialIn K (.builtin "object.__class__") "__get__") (some (some (.builtin "getset_descriptor.__get__"))) && (decide (PySem.W.takesIn K (.builtin "object.__class__") = some true) && decide (PySem.W.mroIn K D (.type "object") = some true)))))))
theorem excCB_ok {K : PySem.W.Frag} {D : Addr} (h : excCB K D = true) : ExcC K D := by
  obtain ⟨h1, h⟩ := bool_and h
  obtain ⟨h2, h⟩ := bool_and h
  obtain ⟨h3, h⟩ := bool_and h
  obtain ⟨h4, h⟩ := bool_and h
  obtain ⟨h5, h⟩ := bool_and h
  obtain ⟨h6, h⟩ := bool_and h
  obtain ⟨h7, h8⟩ := bool_and h
  exact ⟨of_decide_eq_true h1, of_decide_eq_true h2, of_decide_eq_true h3, h4, of_decide_eq_true h5, of_decide_eq_true h6, of_decide_eq_true h7, of_decide_eq_true h8⟩
abbrev CsD : Type := Str × Option String × List Bool
def csB1 (xfl : List Str) (K : PySem.W.Frag) (xs : List Str) (c : CsD) (k : Nat) : Bool := match c.2.2[k]? with
  | none => true
  | some b => decide (PySem.W.kitOne K (.ref (clsE K xs k)) (clsValue K c.1 c.2.1) = some b) && (decide (PySem.W.exmOne K (.ref (clsE K xs k)) (clsValue K c.1 c.2.1) = some b) && (excCB K (clsE K xs k) && (xfB K (clsE K xs k) && xfl.all fun f => eqs (PySem.W.findIn K (.ref (clsE K xs k)) f) (some none))))
def csB (xfl : List Str) (xs : List Str) (cd : List CsD) (K : PySem.W.Frag) : Bool := cd.all fun c => decide (c.2.2.length ≤ xs.length) && ((List.range xs.length).all (csB1 xfl K xs c) && (match c.2.1 with
  | none => eqs (PySem.W.nsIn K mainGlobals c.1) (some (some (.ref (He.ga K c.1))))
  | some T => eqs (PySem.W.nsIn K mainGlobals c.1) (some none) && (decide (bootBuiltins c.1 = some (.type T)) && decide (c.1 ≠ "__name__"))))
theorem csB_ok {X : Cx} {E : Env3} {h : Heap} {xs xfl : List Str} {cd : List CsD} (hE : E.cls = clsE X.K xs) (hX : E.xfl = xfl) (Xi : X.K.In h) (G : h.Ns mainGlobals X.mg) (c : csB xfl xs cd X.K = true) : ∀ p ∈ cd.map fun d => (d.1, d.2.2), ClsFact X E p.1 p.2 := by
  intro p hp
  obtain ⟨d, hd, rfl⟩ := List.mem_map.mp hp
  obtain ⟨y, o, row⟩ := d
  obtain ⟨k1, k⟩ := bool_and (List.all_eq_true.mp c _ hd)
  obtain ⟨k2, k3⟩ := bool_and k
  have k1 := of_decide_eq_true k1
  refine ⟨clsVal X.K y o, clsValue X.K y o, ?_, ?_, ?_, fun k b e => ?_⟩
  · cases o <;> rfl
  · cases o <;> exact fun u h => h
  · cases o with
    | none => exact .inl (PySem.W.mg_of Xi G (of_decide_eq_true k3))
    | some T =>
      obtain ⟨j1, j2⟩ := bool_and k3
      obtain ⟨j2, j3⟩ := bool_and j2
      exact .inr ⟨PySem.W.mg_none_of Xi G (of_decide_eq_true j1), of_decide_eq_true j2, of_decide_eq_true j3⟩
  · have hk : k < xs.length := by
      have := (List.getElem?_eq_some_iff.mp e).1
      exact Nat.lt_of_lt_of_le this k1
    have z := List.all_eq_true.mp k2 k (List.mem_range.mpr hk)
    unfold csB1 at z
    have e' : (y, o, row).2.2[k]? = some b := e
    rw [e'] at z
    obtain ⟨z1, z2⟩ := bool_and z
    obtain ⟨z2, z3⟩ := bool_and z2
    obtain ⟨z3, z4⟩ := bool_and z3
    obtain ⟨z4, z5⟩ := bool_and z4
    rw [hE]
    refine ⟨of_decide_eq_true z1, of_decide_eq_true z2, excCB_ok z3, by rw [hE]; exact xfB_ok z4, fun f hf => ?_⟩
    rw [hE]
    rw [hX] at hf
    exact of_decide_eq_true (List.all_eq_true.mp z5 f hf)
theorem raiseOk_of {X : Cx} {E : Env3} {c : Nat} {x : Str} (hE : E.cls c = He.ga X.K x) (f : (He.Fa.exc x).ok X.K = true) (gC : X.mg x = some (.ref (He.ga X.K x))) (hx : (x == ("__debug__" : Str)) = false) : RaiseOk X E c x := by
  obtain ⟨h1, h2, h3, h4⟩ := He.exc_ok f
  refine ⟨fun hg p m j p2 pos => ?_⟩
  rw [hE]
  exact pmk_own PySem.F.excBase_ValueError h1 gC h2 (raises_own h3 h4) hg hx
theorem xs_nil {Y : Nat → Str → Prop} : ∀ c x, ([] : List Str)[c]? = some x → Y c x := fun c x e => by simp at e
theorem xs_cons {y : Str} {l : List Str} {Y : Nat → Str → Prop} (h : Y 0 y) (r : ∀ c x, l[c]? = some x → Y (c + 1) x) : ∀ c x, (y :: l)[c]? = some x → Y c x
  | 0, x, e => by simp at e; subst e; exact h
  | c + 1, x, e => r c x (by simpa using e)
def asY (g : Addr → Option Obj) (n : Nat) : List Addr := He.asD g n ++ [cStatics]
def obsY (n : Nat) (fa : List He.Fa) (fn : List He.DefD) (ex : PySem.W.Frag → Bool) (g : Addr → Option Obj) : He.AlX := (He.obsT fa fn [] (He.frT g (asY g n)), ex (He.frT g (asY g n)))
def hookY (n : Nat) (fa : List He.Fa) (fn : List He.DefD) (ex : PySem.W.Frag → Bool) : PySem.W.Hook where
  α := He.AlX
  obs := fun s => obsY n fa fn ex s.heap.get?
  val := fun w => He.valX fn [] w
  says := fun w h => ∃ K : PySem.W.Frag, K.In h ∧ He.SaysX fa fn [] [] ex w h K
  of := fun w s e => ⟨He.frT s.heap.get? (asY s.heap.get? n), He.frT_in, (congrArg (fun z : He.AlX => z.1) e : He.obsT fa fn [] (He.frT s.heap.get? (asY s.heap.get? n)) = He.valT fn [] w), (congrArg (fun z : He.AlX => z.2) e : ex (He.frT s.heap.get? (asY s.heap.get? n)) = true), (fun _ h => nomatch h), (fun _ h => nomatch h), (fun _ h => nomatch h)⟩
  keeps := fun _ _ _ ⟨K, hK, c⟩ k => ⟨K, PySem.W.Frag.In.keeps hK k, ⟨c.t, c.more, c.hd, c.out, fun p hp => k _ _ (c.empty p hp)⟩⟩
theorem obsY_eq {n : Nat} {fa : List He.Fa} {fn : List He.DefD} {ex : PySem.W.Frag → Bool} {g : Addr → Option Obj} {s : Shared} (h : ∀ a, g a = s.heap.get? a) : obsY n fa fn ex g = (hookY n fa fn ex).obs s := by
  have e : g = s.heap.get? := funext h
  rw [e] <;> rfl
def obsL (as : List Addr) (fa : List He.Fa) (fn : List He.DefD) (ex : PySem.W.Frag → Bool) (g : Addr → Option Obj) : He.AlX := (He.obsT fa fn [] (He.frT g as), ex (He.frT g as))
def hookL (as : List Addr) (fa : List He.Fa) (fn : List He.DefD) (ex : PySem.W.Frag → Bool) : PySem.W.Hook where
  α := He.AlX
  obs := fun s => obsL as fa fn ex s.heap.get?
  val := fun w => He.valX fn [] w
  says := fun w h => ∃ K : PySem.W.Frag, K.In h ∧ He.SaysX fa fn [] [] ex w h K
  of := fun w s e => ⟨He.frT s.heap.get? as, He.frT_in, (congrArg (fun z : He.AlX => z.1) e : He.obsT fa fn [] (He.frT s.heap.get? as) = He.valT fn [] w), (congrArg (fun z : He.AlX => z.2) e : ex (He.frT s.heap.get? as) = true), (fun _ h => nomatch h), (fun _ h => nomatch h), (fun _ h => nomatch h)⟩
  keeps := fun _ _ _ ⟨K, hK, c⟩ k => ⟨K, PySem.W.Frag.In.keeps hK k, ⟨c.t, c.more, c.hd, c.out, fun p hp => k _ _ (c.empty p hp)⟩⟩
theorem says_fact {fa : List He.Fa} {fn : List He.DefD} {ex : PySem.W.Frag → Bool} {w : World} {h : Heap} {K : PySem.W.Frag} (c : He.SaysX fa fn [] [] ex w h K) : He.SaysD fa fn K ∧ ex K = true :=
  ⟨congrArg (fun z : He.AlT => z.1) c.t, c.more⟩
def calmD (P : List FD3) (i : Nat) : Bool := match P[i]? with
  | some d => !d.hot
  | none => false
theorem calmD_ok {P : List FD3} {i : Nat} (h : calmD P i = true) : ∃ d, P[i]? = some d ∧ d.hot = false := by
  unfold calmD at h
  split at h
  · rename_i d e; exact ⟨d, e, bool_not h⟩
  · cases h
def oclE (K : PySem.W.Frag) (ocs : List OC3) : Nat → Addr := fun c => He.ga K ((ocs.map (·.name)).getD c "")
def valIs (r : Option PySem.W.CFound) (a : Addr) : Bool := match r with
  | some (.val (.ref b)) => decide (b = a)
  | _ => false
theorem valIs_ok {r : Option PySem.W.CFound} {a : Addr} (h : valIs r a = true) : r = some (.val (.ref a)) := by
  unfold valIs at h
  split at h
  · rw [of_decide_eq_true h]
  · cases h
def irB (K : PySem.W.Frag) (C fa : Addr) : Bool := PySem.W.readsIn K C (.type "type") && (eqs (PySem.W.specialIn K (.ref C) "__getattribute__") (some (some (.builtin "type.__getattribute__"))) && (valIs (PySem.W.findCls K (.ref C) (.type "type") "__init__") fa && PySem.W.keepIn K (.ref fa)))
theorem irB_ok {K : PySem.W.Frag} {C fa : Addr} (h : irB K C fa = true) : InitRd K C fa := by
  obtain ⟨h1, h⟩ := bool_and h
  obtain ⟨h2, h⟩ := bool_and h
  obtain ⟨h3, h4⟩ := bool_and h
  exact ⟨h1, of_decide_eq_true h2, valIs_ok h3, h4⟩
def obB1 (K : PySem.W.Frag) (fl : List Str) (fp : List (Str × Option Str)) (oc : OC3) : Bool :=
  (He.Fa.cls oc.name).ok K && ((He.Fa.glo oc.name).ok K && ((He.Fa.mkr oc.name).ok K && (decide (He.ma K (He.ga K oc.name) "__init__" = He.fAd K (fp.getD oc.init ("", none))) &&
    (fl.all (fun f => (He.Fa.noat oc.name f).ok K) && (irB K (He.ga K oc.name) (He.ma K (He.ga K oc.name) "__init__") && oc.meths.all fun m => (He.Fa.meth oc.name m.1).ok K && decide (He.ma K (He.ga K oc.name) m.1 = He.fAd K (fp.getD m.2 ("", none))))))))
def obB (ocs : List OC3) (fl : List Str) (fp : List (Str × Option Str)) (K : PySem.W.Frag) : Bool := ocs.all (obB1 K fl fp)
section
variable {K : PySem.W.Frag} {ocs : List OC3} {fl : List Str} {fp : List (Str × Option Str)} {i : Nat} {oc : OC3}
theorem oclE_at (h : ocs[i]? = some oc) : oclE K ocs i = He.ga K oc.name := by
  unfold oclE
  rw [List.getD_eq_getElem?_getD, List.getElem?_map, h]; rfl
theorem ob_at (c : obB ocs fl fp K = true) (h : ocs[i]? = some oc) : obB1 K fl fp oc = true := List.all_eq_true.mp c _ (List.mem_of_getElem? h)
theorem ob_cls (c : obB ocs fl fp K = true) : ∀ i, i < ocs.length → Cls K (oclE K ocs i) := fun i hi => by
  have h := List.getElem?_eq_getElem hi
  rw [oclE_at h]
  exact He.cls_ok (bool_and (ob_at c h)).1
theorem ob_noat (c : obB ocs fl fp K = true) : ∀ i, i < ocs.length → ∀ f ∈ fl, NoAttr K (oclE K ocs i) f := fun i hi f hf => by
  have h := List.getElem?_eq_getElem hi
  rw [oclE_at h]
  have k := (bool_and (bool_and (bool_and (bool_and (bool_and (ob_at c h)).2).2).2).2).1
  exact He.noat_ok (List.all_eq_true.mp k f hf)
theorem lookup_mem {α : Type} {m : Str} {x : α} : ∀ {l : List (Str × α)}, l.lookup m = some x → (m, x) ∈ l
  | [], h => by cases h
  | (a, y) :: l, h => by
    rw [List.lookup_cons] at h
    cases e : (m == a) with
    | true => rw [e] at h; cases h; rw [eq_of_beq e]; exact List.mem_cons_self
    | false => rw [e] at h; exact List.mem_cons_of_mem _ (lookup_mem h)
theorem ob_meth (c : obB ocs fl fp K = true) {P : List FD3} (hn : ocs.all (fun oc => calmD P oc.init && oc.meths.all fun m => calmD P m.2) = true) :
    ∀ i oc m j, ocs[i]? = some oc → oc.meths.lookup m = some j → Meth K (oclE K ocs i) m (He.fAd K (fp.getD j ("", none))) ∧ ∃ d, P[j]? = some d ∧ d.hot = false := fun i oc m j h hm => by
  rw [oclE_at h]
  have k := (bool_and (bool_and (bool_and (bool_and (bool_and (bool_and (ob_at c h)).2).2).2).2).2).2
  obtain ⟨k1, k2⟩ := bool_and (List.all_eq_true.mp k _ (lookup_mem hm))
  have k3 := of_decide_eq_true k2
  have k4 := He.meth_ok k1
  have k3 : He.ma K (He.ga K oc.name) m = He.fAd K (fp.getD j ("", none)) := k3
  rw [← k3]
  exact ⟨k4, calmD_ok (List.all_eq_true.mp (bool_and (List.all_eq_true.mp hn oc (List.mem_of_getElem? h))).2 _ (lookup_mem hm))⟩
theorem ob_mkr {mg : Str → Option Value} {h0 : Heap} (X : K.In h0) (G : h0.Ns mainGlobals mg) (c : obB ocs fl fp K = true) {P : List FD3} (hn : ocs.all (fun oc => calmD P oc.init && oc.meths.all fun m => calmD P m.2) = true) :
    ∀ i oc, ocs[i]? = some oc → Mk K (oclE K ocs i) (He.fAd K (fp.getD oc.init ("", none))) ∧ mg oc.name = some (.ref (oclE K ocs i)) ∧ InitRd K (oclE K ocs i) (He.fAd K (fp.getD oc.init ("", none))) ∧ ∃ d, P[oc.init]? = some d ∧ d.hot = false := fun i oc h => by
  rw [oclE_at h]
  obtain ⟨_, k⟩ := bool_and (ob_at c h)
  obtain ⟨k1, k⟩ := bool_and k
  obtain ⟨k2, k⟩ := bool_and k
  obtain ⟨k3, k⟩ := bool_and k
  have k3 := of_decide_eq_true k3
  rw [← k3]
  have k4 := (bool_and (bool_and k).2).1
  exact ⟨He.mkr_ok k2, He.glo_ok X G k1, irB_ok k4, calmD_ok (bool_and (List.all_eq_true.mp hn oc (List.mem_of_getElem? h))).1⟩
end
def icB1 (K : PySem.W.Frag) (ocs : List OC3) (y : Str) (row : List Bool) (c : Nat) : Bool := match row[c]? with
  | none => true
  | some b => decide (PySem.W.kitOne K (.ref (oclE K ocs c)) (.ref (He.ga K y)) = some b) && (eqs (PySem.W.findIn K (.ref (oclE K ocs c)) "__class__") (some (some (.builtin "object.__class__"))) &&
    (eqs (PySem.W.specialIn K (.builtin "object.__class__") "__get__") (some (some (.builtin "getset_descriptor.__get__"))) && (decide (PySem.W.takesIn K (.builtin "object.__class__") = some true) && decide (PySem.W.mroIn K (oclE K ocs c) (.type "object") = some true))))
def icB (ocs : List OC3) (ics : List (Str × List Bool)) (K : PySem.W.Frag) : Bool := ics.all fun p => eqs (PySem.W.nsIn K mainGlobals p.1) (some (some (.ref (He.ga K p.1)))) && (decide (p.2.length ≤ 100) && (List.range 100).all (icB1 K ocs p.1 p.2))
theorem icB_ok {X : Cx} {E : Env3} {h : Heap} {ocs : List OC3} {ics : List (Str × List Bool)} (hE : E.ocl = oclE X.K ocs) (Xi : X.K.In h) (G : h.Ns mainGlobals X.mg) (c : icB ocs ics X.K = true) : ∀ p ∈ ics, IscFact X E p.1 p.2 := by
  intro p hp
  obtain ⟨k1, k⟩ := bool_and (List.all_eq_true.mp c _ hp)
  obtain ⟨k2, k3⟩ := bool_and k
  refine ⟨He.ga X.K p.1, PySem.W.mg_of Xi G (of_decide_eq_true k1), fun c b e => ?_⟩
  have hc : c < 100 := Nat.lt_of_lt_of_le (List.getElem?_eq_some_iff.mp e).1 (of_decide_eq_true k2)
  have z := List.all_eq_true.mp k3 c (List.mem_range.mpr hc)
  unfold icB1 at z
  rw [e] at z
  obtain ⟨z1, z⟩ := bool_and z
  obtain ⟨z2, z⟩ := bool_and z
  obtain ⟨z3, z⟩ := bool_and z
  obtain ⟨z4, z5⟩ := bool_and z
  rw [hE]
  exact ⟨of_decide_eq_true z1, of_decide_eq_true z2, of_decide_eq_true z3, of_decide_eq_true z4, of_decide_eq_true z5⟩
end L3
set_option maxRecDepth 100000
set_option maxHeartbeats 4000000
namespace L3
open PySem L2 PySem.W
class Bt (i : Int) (n : outParam Nat) : Prop where
  lt : i.natAbs < 2 ^ n
instance bt_mul {i j : Int} {a b : Nat} [ha : Bt i a] [hb : Bt j b] : Bt (i * j) (a + b) := ⟨bits_mul ha.lt hb.lt⟩
theorem two_pow_max {a b x y : Nat} (ha : x < 2 ^ a) (hb : y < 2 ^ b) : x + y < 2 ^ (max a b + 1) := by
  have h1 := Nat.pow_le_pow_right (show 0 < 2 by decide) (Nat.le_max_left a b)
  have h2 := Nat.pow_le_pow_right (show 0 < 2 by decide) (Nat.le_max_right a b)
  rw [Nat.pow_succ]; omega
instance bt_add {i j : Int} {a b : Nat} [ha : Bt i a] [hb : Bt j b] : Bt (i + j) (max a b + 1) := ⟨Nat.lt_of_le_of_lt (by omega) (two_pow_max ha.lt hb.lt)⟩
instance bt_sub {i j : Int} {a b : Nat} [ha : Bt i a] [hb : Bt j b] : Bt (i - j) (max a b + 1) := ⟨Nat.lt_of_le_of_lt (by omega) (two_pow_max ha.lt hb.lt)⟩
instance bt_neg {i : Int} {a : Nat} [ha : Bt i a] : Bt (-i) a := ⟨by rw [Int.natAbs_neg]; exact ha.lt⟩
instance bt_0 : Bt 0 1 := ⟨by decide⟩
instance bt_1 : Bt 1 1 := ⟨by decide⟩
instance (priority := low) bt_any {k : Int} : Bt k (k.natAbs.log2 + 1) := ⟨Nat.lt_log2_self⟩
instance bt_gcdL {i j : Int} {a b : Nat} [ha : Bt i a] [hb : Bt j b] : Bt (Int.gcd i j : Int) (max a b) := ⟨by
  have e : ∀ x y : Nat, Nat.gcd x y ≤ max x y := fun x y => by
    rcases Nat.eq_zero_or_pos x with h | h
    · subst h; simp
    · exact Nat.le_trans (Nat.gcd_le_left y h) (Nat.le_max_left _ _)
  rw [Int.natAbs_natCast]
  have h1 := Nat.pow_le_pow_right (show 0 < 2 by decide) (Nat.le_max_left a b)
  have h2 := Nat.pow_le_pow_right (show 0 < 2 by decide) (Nat.le_max_right a b)
  refine Nat.lt_of_le_of_lt (e i.natAbs j.natAbs) ?_
  have := ha.lt; have := hb.lt
  omega⟩
theorem mulC {i j : Int} {a b : Nat} [ha : Bt i a] [hb : Bt j b] (h : a + b ≤ 134217728 := by decide) : IntMulOk i j := mul_ok ha.lt hb.lt h
theorem divC {i j : Int} {b : Nat} [hb : Bt j b] (h0 : j ≠ 0) (h : b ≤ 9000 := by decide) : j ≠ 0 ∧ Builtin.divisionGoesByPylong i j = false := div_ok h0 hb.lt h
abbrev HW {α : Type} [DecidableEq α] [Datum α] (g : G) (w : W) (x : α) : Prop := DW g w (Datum.toD x)
theorem hw_pair {α β : Type} [DecidableEq α] [Datum α] [DecidableEq β] [Datum β] {g : G} {a b : W} {x : α} {y : β} (h : HW g a x) (h' : HW g b y) : HW g (.tup [a, b]) (x, y) :=
  DW.tup rfl fun i w d e1 e2 => match i, e1, e2 with
    | 0, e1, e2 => by cases e1; cases e2; exact h
    | 1, e1, e2 => by cases e1; cases e2; exact h'
    | i + 2, e1, e2 => by simp at e1
theorem hw_get {α : Type} [DecidableEq α] [Datum α] {g : G} {ws : List W} {xs : List α} (n : ws.length = xs.length) (k : ∀ (i : Nat) (w : W) (x : α), ws[i]? = some w → xs[i]? = some x → HW g w x) :
    ws.length = (xs.map Datum.toD).length ∧ ∀ (i : Nat) (w : W) (d : PyData), ws[i]? = some w → (xs.map Datum.toD)[i]? = some d → DW g w d := by
  refine ⟨by simpa using n, fun i w d e1 e2 => ?_⟩
  rw [List.getElem?_map, Option.map_eq_some_iff] at e2
  obtain ⟨x, e2, rfl⟩ := e2
  exact k i w x e1 e2
theorem hw_lst {α : Type} [DecidableEq α] [Datum α] {g : G} {a : Addr} {ws : List W} {xs : List α} (h : g a = some (.lst ws)) (n : ws.length = xs.length) (k : ∀ (i : Nat) (w : W) (x : α), ws[i]? = some w → xs[i]? = some x → HW g w x) : HW g (.ref a) xs :=
  DW.lst h (hw_get n k).1 (hw_get n k).2
theorem hw_lstM {α : Type} [DecidableEq α] [Datum α] {g : G} {a : Addr} {f : α → W} {xs : List α} (h : g a = some (.lst (xs.map f))) (k : ∀ x ∈ xs, HW g (f x) x) : HW g (.ref a) xs :=
  hw_lst h (by simp) fun i w x e1 e2 => by
    rw [List.getElem?_map, e2] at e1
    cases e1
    exact k x (List.mem_of_getElem? e2)
theorem eqS_dw {neg : Bool} {x y : W} {g : G} {q : VK3} {d e : PyData} (h1 : DW g x d) (h2 : DW g y e) (p1 : d.plain = true) (p2 : e.plain = true) (hd : d.depth ≤ 64) (h : q (.bl (xor neg (PyData.eqv d e))) g) : eqS neg x y g q := by
  unfold eqS
  split
  · cases h1; cases h2; simpa [PyData.eqv, PySem.W.beq_decide] using h
  · cases h1; cases h2; simpa [PyData.eqv, PySem.W.beq_decide] using h
  · cases h1; cases h2; simpa [PyData.eqv, PySem.W.beq_decide] using h
  · exact ⟨d, e, h1, h2, p1, p2, hd, h⟩
theorem eqS_hw {α : Type} [DecidableEq α] [Datum α] {neg : Bool} {a b : W} {g : G} {q : VK3} {x y : α} (h1 : HW g a x) (h2 : HW g b y) (hd : Datum.depth α ≤ 64) (h : q (.bl (xor neg (decide (x = y)))) g) : eqS neg a b g q :=
  eqS_dw h1 h2 (Datum.plain x) (Datum.plain y) (Nat.le_trans (Datum.depth_le x) hd) (by rw [Datum.eqv]; exact h)
section
variable {tg : T3} {ok : G → Prop} {tb : TS3} {D : Ends3}
theorem for_ind (I : List W → Sx → G → Prop) (hend : ∀ s g, I [] s g → ok g ∧ D.nx s g)
    (hstep : ∀ x xs s g, I (x :: xs) s g → ∀ K : Sx → G → Prop, (∀ s' g', I xs s' g' → K s' g') → ok g ∧ asg tg x s g fun s2 => tb { nx := K, ct := K, bk := D.nx, rt := D.rt, ex := D.ex } s2 g) :
    ∀ xs s g, I xs s g → forI tg ok tb D xs s g
  | [], s, g, h => hend s g h
  | x :: xs, s, g, h => hstep x xs s g h _ fun s' g' h' => for_ind I hend hstep xs s' g' h'
end
theorem lst_same {g : G} {p : Addr} {xs : List W} {k : List W → Prop} : lstAt (gup g p (.lst xs)) p k = k xs := lstAt_of gup_same
end L3
namespace L3
open PySem L2 PySem.W
section
variable {g : G} {q : VK3} {a b c d e : W} {r : List W}
theorem ixTn {xs : List W} {v : W} (k : Nat) (h : xs[k]? = some v) : ixS (.tup xs) (.int (k : Int)) g q = q v g := by simp only [ixS, atI_n, h, Option.some.injEq]; exact propext ⟨fun ⟨_, e, h⟩ => e ▸ h, fun h => ⟨_, rfl, h⟩⟩
theorem ixT0 : ixS (.tup (a :: r)) (.int 0) g q = q a g := ixTn 0 rfl
theorem ixT1 : ixS (.tup (a :: b :: r)) (.int 1) g q = q b g := ixTn 1 rfl
theorem ixT2 : ixS (.tup (a :: b :: c :: r)) (.int 2) g q = q c g := ixTn 2 rfl
theorem ixT3 : ixS (.tup (a :: b :: c :: d :: r)) (.int 3) g q = q d g := ixTn 3 rfl
theorem ixT4 : ixS (.tup (a :: b :: c :: d :: e :: r)) (.int 4) g q = q e g := ixTn 4 rfl
theorem ixL {p : Addr} {xs : List W} {i : Int} (h : g p = some (.lst xs)) : ixS (.ref p) (.int i) g q = ∃ v, atI xs i = some v ∧ q v g := by simp [ixS, h]
end
structure Low (a b t u : Int) : Prop where
  pos : 0 < u
  cop : Int.gcd t u = 1
  eq : t * b = a * u
  ht : t.natAbs ≤ a.natAbs
  hu : u.natAbs ≤ b.natAbs
theorem fdiv_dvd {a d : Int} (h : d ∣ a) : a.fdiv d = a / d := by
  rcases Int.lt_trichotomy d 0 with hd | hd | hd
  · obtain ⟨k, rfl⟩ := h
    have h0 : d ≠ 0 := by omega
    rw [Int.mul_fdiv_cancel_left _ h0, Int.mul_ediv_cancel_left _ h0]
  · subst hd; simp
  · exact Int.fdiv_eq_ediv_of_nonneg a (Int.le_of_lt hd)
theorem low_pos {a b : Int} (hb : 0 < b) : Low a b (a.fdiv (Int.gcd a b)) (b.fdiv (Int.gcd a b)) := by
  have hg : (Int.gcd a b : Int) ≠ 0 := by
    have : Int.gcd a b ≠ 0 := fun z => by rw [Int.gcd_eq_zero_iff] at z; omega
    omega
  have hg' : 0 < Int.gcd a b := by omega
  rw [fdiv_dvd (Int.gcd_dvd_left ..), fdiv_dvd (Int.gcd_dvd_right ..)]
  have e1 := Int.ediv_mul_cancel (Int.gcd_dvd_left a b)
  have e2 := Int.ediv_mul_cancel (Int.gcd_dvd_right a b)
  have ed : ∀ x : Int, (Int.gcd a b : Int) ∣ x → (x / Int.gcd a b).natAbs ≤ x.natAbs := fun x hx => by
    rw [Int.natAbs_ediv_of_dvd hx]; exact Nat.div_le_self _ _
  refine ⟨?_, Int.gcd_ediv_gcd_ediv_gcd hg', ?_, ed a (Int.gcd_dvd_left ..), ed b (Int.gcd_dvd_right ..)⟩
  · exact Int.ediv_pos_of_pos_of_dvd hb (by omega) (Int.gcd_dvd_right ..)
  · generalize a / (Int.gcd a b : Int) = s at *
    generalize b / (Int.gcd a b : Int) = t at *
    generalize (Int.gcd a b : Int) = m at *
    subst e1 e2
    grind
theorem low_neg {a b : Int} (hb : b < 0) : Low a b (a.fdiv (-(Int.gcd a b : Int))) (b.fdiv (-(Int.gcd a b : Int))) := by
  have h := low_pos (a := -a) (b := -b) (by omega)
  have e : Int.gcd (-a) (-b) = Int.gcd a b := by rw [Int.gcd_neg, Int.neg_gcd]
  rw [e] at h
  have k : ∀ x : Int, x.fdiv (-(Int.gcd a b : Int)) = (-x).fdiv (Int.gcd a b) := fun x => by
    have := Int.neg_fdiv_neg x (-(Int.gcd a b : Int))
    rw [Int.neg_neg] at this
    exact this.symm
  rw [k, k]
  obtain ⟨h1, h2, h3, h4, h5⟩ := h
  refine ⟨h1, h2, ?_, by rw [Int.natAbs_neg] at h4; exact h4, by rw [Int.natAbs_neg] at h5; exact h5⟩
  grind
theorem low_any {a b : Int} (hb : b ≠ 0) : Low a b (a.fdiv (if b < 0 then -(Int.gcd a b : Int) else Int.gcd a b)) (b.fdiv (if b < 0 then -(Int.gcd a b : Int) else Int.gcd a b)) := by
  split
  · exact low_neg (by omega)
  · exact low_pos (by omega)
theorem dvd_cop {u t u' : Int} (h : u ∣ t * u') (c : Int.gcd u t = 1) : u ∣ u' := by
  rw [← Int.natAbs_dvd_natAbs, Int.natAbs_mul] at h
  rw [← Int.natAbs_dvd_natAbs]
  exact Nat.Coprime.dvd_of_dvd_mul_left c h
theorem low_uniq {t u t' u' : Int} (h1 : 0 < u) (h2 : Int.gcd t u = 1) (h3 : 0 < u') (h4 : Int.gcd t' u' = 1) (e : t * u' = t' * u) : t = t' ∧ u = u' := by
  have d1 : u ∣ u' := by
    have : u ∣ t * u' := by rw [e]; exact Int.dvd_mul_left _ _
    exact dvd_cop this (by rw [Int.gcd_comm]; exact h2)
  have d2 : u' ∣ u := by
    have : u' ∣ t' * u := by rw [← e]; exact Int.dvd_mul_left _ _
    exact dvd_cop this (by rw [Int.gcd_comm]; exact h4)
  have eu : u = u' := Int.dvd_antisymm (by omega) (by omega) d1 d2
  subst eu
  exact ⟨Int.eq_of_mul_eq_mul_right (by omega) e, rfl⟩
theorem Low.uniq {a b t u t' u' : Int} (hb : b ≠ 0) (h : Low a b t u) (h3 : 0 < u') (h4 : Int.gcd t' u' = 1) (e : t' * b = a * u') : t = t' ∧ u = u' := by
  refine low_uniq h.pos h.cop h3 h4 ?_
  have := h.eq
  exact Int.eq_of_mul_eq_mul_right hb (by grind)
end L3
namespace L3
theorem abs_ite {i : Int} : (if i < 0 then -i else i) = (i.natAbs : Int) := by split <;> omega
instance bt_absInst {i : Int} {a : Nat} [ha : Bt i a] : Bt (i.natAbs : Int) a := ⟨by have := ha.lt; omega⟩
instance bt_ediv {i j : Int} {a : Nat} [ha : Bt i a] : Bt (i / j) a := ⟨Nat.lt_of_le_of_lt (Int.natAbs_ediv_le_natAbs i j) ha.lt⟩
instance bt_fdiv {i j : Int} {a : Nat} [ha : Bt i a] : Bt (i.fdiv j) a := ⟨Nat.lt_of_le_of_lt (Int.natAbs_fdiv_le_natAbs i j) ha.lt⟩
end L3
namespace L3
open PySem L2
section
variable {neg : Bool} {g : G} {q : VK3}
theorem eqS_ii {i j : Int} : eqS neg (.int i) (.int j) g q = q (.bl (xor neg (decide (i = j)))) g := rfl
theorem eqS_ss {i j : Str} : eqS neg (.str i) (.str j) g q = q (.bl (xor neg (decide (i = j)))) g := rfl
theorem eqS_bb {i j : Bool} : eqS neg (.bl i) (.bl j) g q = q (.bl (xor neg (decide (i = j)))) g := rfl
end
end L3
namespace L3
open PySem L2
section
variable {v : Nat → W} {p : Addr} {c i : Nat} {row : List Bool} {x : XK3} {s : Sx} {o : Option W} {g : G} {q : VK3} {gl : Gs} {oo : List OC3}
theorem eIsx_0 : eIsx ⟨v, some (p, c, none), oo⟩ 0 row x (some (.exc p c none) :: s) g q = ∃ b, row[c]? = some b ∧ q (.bl b) g := by
  refine propext ⟨?_, ?_⟩
  · rintro ⟨a, c', d, b, e1, e2, e0, e3, h⟩
    cases e1
    exact ⟨b, e3, h⟩
  · rintro ⟨b, e, h⟩
    exact ⟨p, c, none, b, rfl, rfl, (fun _ h => nomatch h), e, h⟩
theorem eIsx_0x {dd : Addr} : eIsx ⟨v, some (p, c, some dd), oo⟩ 0 row x (some (.exc p c (some dd)) :: s) g q = ∃ fs, g dd = some (.xd fs) ∧ ∃ b, row[c]? = some b ∧ q (.bl b) g := by
  refine propext ⟨?_, ?_⟩
  · rintro ⟨a, c', d, b, e1, e2, e0, e3, h⟩
    cases e1
    obtain ⟨fs, hf⟩ := e0 _ rfl
    exact ⟨fs, hf, b, e3, h⟩
  · rintro ⟨fs, hf, b, e, h⟩
    exact ⟨p, c, some dd, b, rfl, rfl, (fun _ h => by cases h; exact ⟨fs, hf⟩), e, h⟩
theorem eXat_0 {dd : Addr} {f : Str} : eXat ⟨v, some (p, c, some dd), oo⟩ 0 f x (some (.exc p c (some dd)) :: s) g q = ∃ fs w, g dd = some (.xd fs) ∧ fs.lookup f = some w ∧ q w g := by
  refine propext ⟨?_, ?_⟩
  · rintro ⟨a, c', d, fs, w, e1, e2, e0, e3, h⟩
    cases e1
    exact ⟨fs, w, e0, e3, h⟩
  · rintro ⟨fs, w, e0, e3, h⟩
    exact ⟨p, c, dd, fs, w, rfl, rfl, e0, e3, h⟩
theorem eIsxs_0 {ys : List (Str × List Bool)} : eIsxs ⟨v, some (p, c, none), oo⟩ 0 ys x (some (.exc p c none) :: s) g q = ∃ b, anyR ys c = some b ∧ q (.bl b) g := by
  refine propext ⟨?_, ?_⟩
  · rintro ⟨a, c', d, b, e1, e2, e0, e3, h⟩
    cases e1
    exact ⟨b, e3, h⟩
  · rintro ⟨b, e, h⟩
    exact ⟨p, c, none, b, rfl, rfl, (fun _ h => nomatch h), e, h⟩
theorem eIsxs_0x {ys : List (Str × List Bool)} {dd : Addr} : eIsxs ⟨v, some (p, c, some dd), oo⟩ 0 ys x (some (.exc p c (some dd)) :: s) g q = ∃ fs, g dd = some (.xd fs) ∧ ∃ b, anyR ys c = some b ∧ q (.bl b) g := by
  refine propext ⟨?_, ?_⟩
  · rintro ⟨a, c', d, b, e1, e2, e0, e3, h⟩
    cases e1
    obtain ⟨fs, hf⟩ := e0 _ rfl
    exact ⟨fs, hf, b, e3, h⟩
  · rintro ⟨fs, hf, b, e, h⟩
    exact ⟨p, c, some dd, b, rfl, rfl, (fun _ h => by cases h; exact ⟨fs, hf⟩), e, h⟩
theorem eIsxs_s {ys : List (Str × List Bool)} : eIsxs gl (i + 1) ys x (o :: s) g q = eIsxs gl i ys x s g q := rfl
def DDh (g0 : G) (q : VK3) : Ends3 := { nx := fun _ g => rtS g0 q .non g, rt := rtS g0 q, bk := fun _ _ => False, ct := fun _ _ => False, ex := fun _ _ _ _ => False }
theorem anyR_nil {k : Nat} : anyR [] k = some false := rfl
theorem anyR_cons {k : Nat} {y : Str} {r : List Bool} {ys : List (Str × List Bool)} : anyR ((y, r) :: ys) k = match r[k]? with
    | none => none
    | some true => some true
    | some false => anyR ys k := rfl
theorem eXat_s {f : Str} : eXat gl (i + 1) f x (o :: s) g q = eXat gl i f x s g q := rfl
theorem suR_nil {k : Option Addr → G → Prop} : suR [] k g = k none g := rfl
theorem suR_cons {k : Option Addr → G → Prop} {f : Str} {w : W} {fs : List (Str × W)} : suR ((f, w) :: fs) k g = ∀ dd, (∀ o, g dd = some o → ∃ l, o = .xd l) → k (some dd) (gup g dd (.xd ((f, w) :: fs))) := rfl
theorem ex_su {d : Option Addr} {P : Addr → Nat → Option Addr → Prop} : (∃ a' c' d', some (p, c, d) = some (a', c', d') ∧ P a' c' d') = P p c d := by
  refine propext ⟨?_, fun h => ⟨p, c, d, rfl, h⟩⟩
  rintro ⟨a', c', d', e, h⟩
  cases e
  exact h
theorem eIsx_s : eIsx gl (i + 1) row x (o :: s) g q = eIsx gl i row x s g q := rfl
theorem ex_some {b : Bool} {P : Bool → Prop} : (∃ b', some b = some b' ∧ P b') = P b := by simp
end
end L3
namespace L3
open PySem L2
section
variable {a b c d e f h k : W} {g : G} {q : VK3} {p : Addr} {xs : List W} {i : Int}
theorem ln0 : (([] : List W).length ≤ sizeLine) = True := by simp
theorem ln1 : ([a].length ≤ sizeLine) = True := by simp [sizeLine]
theorem ln2 : ([a, b].length ≤ sizeLine) = True := by simp [sizeLine]
theorem ln3 : ([a, b, c].length ≤ sizeLine) = True := by simp [sizeLine]
theorem ln4 : ([a, b, c, d].length ≤ sizeLine) = True := by simp [sizeLine]
theorem ln5 : ([a, b, c, d, e].length ≤ sizeLine) = True := by simp [sizeLine]
theorem ln6 : ([a, b, c, d, e, f].length ≤ sizeLine) = True := by simp [sizeLine]
theorem ln7 : ([a, b, c, d, e, f, h].length ≤ sizeLine) = True := by simp [sizeLine]
theorem ln8 : ([a, b, c, d, e, f, h, k].length ≤ sizeLine) = True := by simp [sizeLine]
theorem ixG : ixS (.ref p) (.int i) (gup g p (.lst xs)) q = ∃ v, atI xs i = some v ∧ q v (gup g p (.lst xs)) := ixL gup_same
end
theorem mod_nat (c : Int) {m : Nat} (h : 0 < m) : ∃ k : Nat, k < m ∧ c.fmod (m : Int) = (k : Int) := by
  have hm : (0 : Int) < m := by omega
  refine ⟨(c % m).toNat, ?_, ?_⟩
  · have := Int.emod_lt_of_pos c hm; have := Int.emod_nonneg c (show (m : Int) ≠ 0 by omega); omega
  · rw [fmod_pos hm]; have := Int.emod_nonneg c (show (m : Int) ≠ 0 by omega); omega
end L3
namespace L3
open PySem L2
section
variable {g : G} {q : VK3}
theorem addS_ii {i j : Int} : addS (.int i) (.int j) g q = q (.int (i + j)) g := rfl
theorem addS_ss {a b : Str} : addS (.str a) (.str b) g q = (a.length + b.length ≤ sizeLine ∧ q (.str (a ++ b)) g) := rfl
theorem addS_tt {a b : List W} : addS (.tup a) (.tup b) g q = (a.length + b.length ≤ sizeLine ∧ q (.tup (a ++ b)) g) := rfl
theorem addS_rr {a b : Addr} : addS (.ref a) (.ref b) g q = lstAt g a fun xs => lstAt g b fun ys => xs.length + ys.length ≤ sizeLine ∧ newL g (xs ++ ys) q := rfl
end
end L3
namespace L3
open PySem L2
end L3
namespace L3
open PySem L2
section
variable {g : G} {r : List W → (G → Prop) → G → Prop} {a : Addr} {xs : List W}
theorem walkS_ref : walkS (.ref a) g r = lstAt g a fun xs => r xs (fun g' => g' a = some (.lst xs)) g := rfl
theorem walkS_tup : walkS (.tup xs) g r = r xs (fun _ => True) g := rfl
theorem walkS_scr : walkS (.scr xs) g r = r xs (fun _ => True) g := rfl
theorem walkL_ref : walkL (.ref a) g r = lstAt g a fun xs => r xs (fun g' => g' a = some (.lst xs)) g := rfl
theorem walkL_scr : walkL (.scr xs) g r = r xs (fun _ => True) g := rfl
end
end L3
namespace L3
open PySem L2
theorem isLst_of {g : G} {p : Addr} {xs : List W} (h : g p = some (.lst xs)) : isLst (.ref p) g := ⟨xs, h⟩
theorem small_line {n : Nat} (h : n ≤ 100000) : n < sizeLine := Nat.lt_of_le_of_lt h (by decide)
end L3
namespace L3
open PySem L2
end L3
namespace L3
open PySem L2
theorem lenL {g : G} {a : Addr} {xs : List W} {q : VK3} (h : g a = some (.lst xs)) : lenS [.ref a] g q = q (.int xs.length) g := by simp [lenS, h]
theorem lenS_str {g : G} {z : Str} {q : VK3} : lenS [.str z] g q = (z.length ≤ sizeLine ∧ q (.int z.length) g) := rfl
theorem lenS_tup {g : G} {z : List W} {q : VK3} : lenS [.tup z] g q = q (.int z.length) g := rfl
theorem lenS_scr {g : G} {z : List W} {q : VK3} : lenS [.scr z] g q = q (.int z.length) g := rfl
theorem lenG {g : G} {a : Addr} {xs : List W} {q : VK3} : lenS [.ref a] (gup g a (.lst xs)) q = q (.int xs.length) (gup g a (.lst xs)) := lenL gup_same
theorem rngW_drop (lo : Int) (n k : Nat) (h : k < n) : (rngW lo n).drop k = .int (lo + (k : Nat)) :: (rngW lo n).drop (k + 1) := by
  rw [List.drop_eq_getElem_cons (by simp [rngW]; exact h)]
  simp [rngW]
theorem for_rng {i n : Nat} {lo : Int} {ok : G → Prop} {tb : TS3} {D : Ends3} {s : Sx} {g : G} (I : Nat → Sx → G → Prop) (h0 : I 0 s g) (hend : ∀ s g, I n s g → ok g ∧ D.nx s g)
    (hstep : ∀ k s g, k < n → I k s g → ∀ K : Sx → G → Prop, (∀ s' g', I (k + 1) s' g' → K s' g') → ok g ∧ tb { nx := K, ct := K, bk := D.nx, rt := D.rt, ex := D.ex } (s.set i (some (.int (lo + (k : Nat))))) g) : forI (.name i) ok tb D (rngW lo n) s g := by
  refine for_ind (fun rest s g => ∃ k, k ≤ n ∧ rest = (rngW lo n).drop k ∧ I k s g) ?_ ?_ _ _ _ ⟨0, Nat.zero_le _, rfl, h0⟩
  · rintro s g ⟨k, hk, e, h⟩
    have : k = n := by
      rcases Nat.lt_or_ge k n with c | c
      · rw [rngW_drop _ _ _ c] at e; cases e
      · omega
    subst this
    exact hend s g h
  · rintro x xs s g ⟨k, hk, e, h⟩ K hK
    rcases Nat.lt_or_ge k n with c | c
    · rw [rngW_drop _ _ _ c] at e
      injection e with e1 e2
      subst e1
      exact hstep k s g c h K fun s' g' h' => hK s' g' ⟨k + 1, c, e2, h'⟩
    · rw [List.drop_eq_nil_of_le (by simp [rngW]; omega)] at e; cases e
theorem small_len {n : Nat} (h : n ≤ 100000) : small62 (n : Int) := by
  refine ⟨?_, ?_⟩
  · have : (-(2 ^ 62) : Int) = -4611686018427387904 := by decide
    omega
  · have : (2 ^ 62 : Int) = 4611686018427387904 := by decide
    omega
end L3
namespace L3
open PySem L2
theorem lc_pure {α : Type} {f : α → W} {c : α → Bool} {e : α → W} {i : Nat} {ok : G → Prop} {tt : Sx → G → (Bool → G → Prop) → Prop} {te : Sx → G → VK3 → Prop} {s : Sx} {q : VK3} {g : G} (hok : ok g) :
    ∀ (xs : List α) (acc : List W), (∀ x ∈ xs, ∀ k : Bool → G → Prop, k (c x) g → tt (s.set i (some (f x))) g k) → (∀ x ∈ xs, c x = true → ∀ k : VK3, k (e x) g → te (s.set i (some (f x))) g k) → xs.length + acc.length ≤ 100000 →
      newL g (acc ++ (xs.filter c).map e) q → lcI (.name i) ok tt te s q (xs.map f) acc g
  | [], acc, _, _, _, h => ⟨hok, by simpa using h⟩
  | x :: xs, acc, ht, he, hl, h => by
    refine ⟨hok, ?_⟩
    show tt (s.set i (some (f x))) g _
    refine ht x List.mem_cons_self _ ?_
    simp only [List.length_cons] at hl
    cases ec : c x with
    | true =>
      rw [if_pos rfl]
      refine he x List.mem_cons_self ec _ ⟨small_line (by omega), ?_⟩
      refine lc_pure hok xs _ (fun y hy => ht y (List.mem_cons_of_mem _ hy)) (fun y hy => he y (List.mem_cons_of_mem _ hy)) (by simp; omega) ?_
      rw [List.filter_cons_of_pos ec] at h
      simpa using h
    | false =>
      rw [if_neg (by decide)]
      refine lc_pure hok xs _ (fun y hy => ht y (List.mem_cons_of_mem _ hy)) (fun y hy => he y (List.mem_cons_of_mem _ hy)) (by omega) ?_
      rw [List.filter_cons_of_neg (by simp [ec])] at h
      exact h
theorem for_map {α : Type} {f : α → W} {tg : T3} {ok : G → Prop} {tb : TS3} {D : Ends3} (I : List α → List α → Sx → G → Prop) {xs : List α} {s : Sx} {g : G} (h0 : I [] xs s g) (hend : ∀ s g, I xs [] s g → ok g ∧ D.nx s g)
    (hstep : ∀ x pre post s g, xs = pre ++ x :: post → I pre (x :: post) s g → ∀ K : Sx → G → Prop, (∀ s' g', I (pre ++ [x]) post s' g' → K s' g') → ok g ∧ asg tg (f x) s g fun s2 => tb { nx := K, ct := K, bk := D.nx, rt := D.rt, ex := D.ex } s2 g) : forI tg ok tb D (xs.map f) s g := by
  refine for_ind (fun rest s g => ∃ pre post, xs = pre ++ post ∧ rest = post.map f ∧ I pre post s g) ?_ ?_ _ _ _ ⟨[], xs, rfl, rfl, h0⟩
  · rintro s g ⟨pre, post, e1, e2, h⟩
    have : post = [] := by simpa using e2.symm
    subst this
    rw [List.append_nil] at e1
    subst e1
    exact hend s g h
  · rintro y ys s g ⟨pre, post, e1, e2, h⟩ K hK
    cases post with
    | nil => simp at e2
    | cons x post =>
      simp only [List.map_cons] at e2
      injection e2 with a1 a2
      subst a1 a2
      exact hstep x pre post s g e1 h K fun s' g' h' => hK s' g' ⟨pre ++ [x], post, by rw [e1]; simp, rfl, h'⟩
def optW : Option Int → W
  | none => .non
  | some i => .int i
end L3
namespace L3
open PySem L2
theorem Ext.new {g : G} {p : Addr} {o : GO} (h : g p = none) : Ext g (gup g p o) := fun a u e => by
  have : a ≠ p := fun z => by subst z; rw [h] at e; cases e
  rw [gup_ne this]; exact e
theorem Ext.wr {g g1 : G} {p : Addr} {o : GO} (e : Ext g g1) (h : g p = none) : Ext g (gup g1 p o) := fun a u ea => by
  have : a ≠ p := fun z => by subst z; rw [h] at ea; cases ea
  rw [gup_ne this]; exact e a u ea
def maxO : List Int → Option Int
  | [] => none
  | x :: xs => some (xs.foldl max x)
theorem foldl_max_ge : ∀ (l : List Int) (x : Int), x ≤ l.foldl max x ∧ ∀ y ∈ l, y ≤ l.foldl max x
  | [], x => by simp
  | z :: l, x => by
    obtain ⟨h1, h2⟩ := foldl_max_ge l (max x z)
    simp only [List.foldl_cons]
    refine ⟨by omega, fun y hy => ?_⟩
    rcases List.mem_cons.mp hy with rfl | hy
    · omega
    · exact h2 y hy
theorem foldl_max_mem : ∀ (l : List Int) (x : Int), l.foldl max x = x ∨ l.foldl max x ∈ l
  | [], x => by simp
  | z :: l, x => by
    simp only [List.foldl_cons, List.mem_cons]
    rcases foldl_max_mem l (max x z) with h | h
    · rcases Int.le_total x z with c | c
      · right; left; rw [h]; omega
      · left; rw [h]; omega
    · exact .inr (.inr h)
theorem maxO_some {l : List Int} {m : Int} (h : maxO l = some m) : m ∈ l ∧ ∀ y ∈ l, y ≤ m := by
  cases l with
  | nil => simp [maxO] at h
  | cons x l =>
    simp only [maxO, Option.some.injEq] at h
    subst h
    have h1 := foldl_max_ge l x
    refine ⟨?_, fun y hy => ?_⟩
    · rcases foldl_max_mem l x with h | h
      · rw [h]; exact List.mem_cons_self
      · exact List.mem_cons_of_mem _ h
    · rcases List.mem_cons.mp hy with rfl | hy
      · exact h1.1
      · exact h1.2 y hy
abbrev Arc := Int × Int × Int
abbrev arcW (a : Arc) : W := .tup [.int a.1, .int a.2.1, .int a.2.2]
def pick (p q : Int) (a : Arc) : Bool := decide (a.1 = p) && decide (a.2.1 = q)
def lagO (A : List Arc) (p q : Int) : Option Int := maxO ((A.filter (pick p q)).map (·.2.2))
def links (C : List Int) : List (Int × Int) := C.zip C.tail
def tot (A : List Arc) : List (Int × Int) → Option Int
  | [] => some 0
  | l :: r => match lagO A l.1 l.2, tot A r with
    | some a, some b => some (a + b)
    | _, _ => none
def totO (A : List Arc) (C : List Int) : Option Int := tot A (links C)
theorem isS_non_opt {o : Option Int} {neg : Bool} {g : G} {q : VK3} : isS neg (optW o) .non g q = q (.bl (xor neg o.isNone)) g := by
  cases o <;> cases neg <;> rfl
end L3
namespace L3
open PySem L2
section
variable {neg : Bool} {g : G} {q : VK3} {i : Int} {z : Str} {b c : Bool} {xs : List W} {a : Addr} {k : Nat}
theorem isS_n : isS neg .non .non g q = q (.bl (!neg)) g := rfl
theorem isS_i : isS neg (.int i) .non g q = q (.bl neg) g := rfl
theorem isS_s : isS neg (.str z) .non g q = q (.bl neg) g := rfl
theorem isS_b : isS neg (.bl b) .non g q = q (.bl neg) g := rfl
theorem isS_t : isS neg (.tup xs) .non g q = q (.bl neg) g := rfl
theorem isS_c : isS neg (.scr xs) .non g q = q (.bl neg) g := rfl
theorem isS_r : isS neg (.ref a) .non g q = q (.bl neg) g := rfl
theorem isS_e {d : Option Addr} : isS neg (.exc a k d) .non g q = q (.bl neg) g := rfl
theorem isS_bb : isS neg (.bl b) (.bl c) g q = q (.bl (xor neg (decide (b = c)))) g := rfl
end
end L3
namespace L3
open PySem L2
theorem listS_scr {g : G} {xs : List W} {q : VK3} : listS [.scr xs] g q = newL g xs q := rfl
theorem listS_tup {g : G} {xs : List W} {q : VK3} : listS [.tup xs] g q = newL g xs q := rfl
end L3
set_option maxRecDepth 100000
set_option maxHeartbeats 4000000
namespace L3
open PySem L2
theorem if_ff {α : Sort _} {a b : α} : (if (false : Bool) then a else b) = b := rfl
theorem if_tt {α : Sort _} {a b : α} : (if (true : Bool) then a else b) = a := rfl
section
variable {κ α : Type} [DecidableEq κ]
theorem dGet_nil {k : κ} : dGet ([] : List (κ × α)) k = none := rfl
theorem dGet_cons {p : κ × α} {l : List (κ × α)} {k : κ} : dGet (p :: l) k = if p.1 = k then some p.2 else dGet l k := by
  unfold dGet
  rw [List.find?_cons]
  by_cases h : p.1 = k
  · simp [h]
  · simp [h]
theorem dGet_app {l m : List (κ × α)} {k : κ} : dGet (l ++ m) k = (dGet l k).or (dGet m k) := by
  induction l with
  | nil => simp [dGet_nil]
  | cons p l ih =>
    rw [List.cons_append, dGet_cons, dGet_cons, ih]
    split <;> simp
theorem any_dGet {l : List (κ × α)} {k : κ} : (l.any fun p => decide (p.1 = k)) = (dGet l k).isSome := by
  induction l with
  | nil => rfl
  | cons p l ih =>
    rw [List.any_cons, dGet_cons, ih]
    by_cases h : p.1 = k <;> simp [h]
theorem dGet_map {l : List (κ × α)} {k k' : κ} {v : α} : dGet (l.map fun p => if p.1 = k then (p.1, v) else p) k' = if k' = k then (dGet l k).map (fun _ => v) else dGet l k' := by
  induction l with
  | nil => simp [dGet_nil]
  | cons p l ih =>
    rw [List.map_cons, dGet_cons, dGet_cons, dGet_cons, ih]
    by_cases h : p.1 = k
    · by_cases h2 : k' = k
      · simp [h, h2]
      · have : ¬ k = k' := fun z => h2 z.symm
        simp [h, h2, this]
    · by_cases h2 : k' = k
      · subst h2; simp [h]
      · simp [h, h2]
theorem dGet_put {l : List (κ × α)} {k k' : κ} {v : α} : dGet (dPut l k v) k' = if k' = k then some v else dGet l k' := by
  unfold dPut
  rw [any_dGet]
  split
  · rename_i h
    rw [dGet_map]
    split
    · obtain ⟨u, e⟩ := Option.isSome_iff_exists.mp h; rw [e]; rfl
    · rfl
  · rename_i h
    have h : dGet l k = none := by simpa using h
    rw [dGet_app, dGet_cons, dGet_nil]
    by_cases h2 : k' = k
    · subst h2; simp [h]
    · have : ¬ k = k' := fun z => h2 z.symm
      simp [h2, this]
theorem dPut_len {l : List (κ × α)} {k : κ} {v : α} : (dPut l k v).length ≤ l.length + 1 := by
  unfold dPut; split <;> simp
theorem dPut_keys {l : List (κ × α)} {k : κ} {v : α} : (dPut l k v).map (·.1) = if (dGet l k).isSome then l.map (·.1) else l.map (·.1) ++ [k] := by
  unfold dPut
  rw [any_dGet]
  split
  · rw [List.map_map]
    congr 1
    funext p
    show (if p.1 = k then (p.1, v) else p).1 = p.1
    split <;> rfl
  · simp
theorem dGet_mem {l : List (κ × α)} {k : κ} {v : α} (h : dGet l k = some v) : (k, v) ∈ l := by
  induction l with
  | nil => cases h
  | cons p l ih =>
    rw [dGet_cons] at h
    split at h
    · rename_i e; cases h; subst e; exact List.mem_cons_self
    · exact List.mem_cons_of_mem _ (ih h)
theorem mem_dGet {l : List (κ × α)} {p : κ × α} (h : p ∈ l) : ∃ v, dGet l p.1 = some v := by
  induction l with
  | nil => cases h
  | cons q l ih =>
    rw [dGet_cons]
    split
    · exact ⟨_, rfl⟩
    · rename_i ne
      rcases List.mem_cons.mp h with rfl | h
      · exact absurd rfl ne
      · exact ih h
end
abbrev key2 (p q : Int) : List Key := [.inl p, .inl q]
section
variable {g : G} {a : Addr} {lk neg : Bool} {kvs : List (List Key × W)} {p r : Int} {q : VK3}
theorem keys_dit {r : List W → (G → Prop) → G → Prop} (h : g a = some (.dit lk kvs)) : keysS (.ref a) g r = r (kvs.map fun p => ktW p.1) (fun g' => g' a = some (.dit true kvs)) (gup g a (.dit true kvs)) := by simp [keysS, h]
theorem keys_dic {kvs : List (Key × W)} {r : List W → (G → Prop) → G → Prop} (h : g a = some (.dic lk kvs)) : keysS (.ref a) g r = r (kvs.map fun p => kW p.1) (fun g' => g' a = some (.dic true kvs)) (gup g a (.dic true kvs)) := by simp [keysS, h]
theorem unl_dit (h : g a = some (.dit true kvs)) : unl g a = gup g a (.dit false kvs) := by simp [unl, h]
theorem unl_dic {kvs : List (Key × W)} (h : g a = some (.dic true kvs)) : unl g a = gup g a (.dic false kvs) := by simp [unl, h]
end
theorem gup_comm {g : G} {a b : Addr} {u v : GO} (h : a ≠ b) : gup (gup g a u) b v = gup (gup g b v) a u := by
  funext c; unfold gup
  by_cases h1 : c = b
  · subst h1; simp [Ne.symm h]
  · simp [h1]
theorem gup_gup {g : G} {a : Addr} {u v : GO} : gup (gup g a u) a v = gup g a v := by
  funext c; unfold gup; split <;> simp_all
theorem pick_iff {p r : Int} {e : Arc} : pick p r e = true ↔ e.1 = p ∧ e.2.1 = r := by simp [pick]
theorem lagO_mem {A : List Arc} {p r m : Int} (h : lagO A p r = some m) : (p, r, m) ∈ A := by
  obtain ⟨e, he, rfl⟩ := List.mem_map.mp (maxO_some h).1
  obtain ⟨h1, h2⟩ := List.mem_filter.mp he
  obtain ⟨rfl, rfl⟩ := pick_iff.mp h2
  exact h1
theorem totO_cc {A : List Arc} {a b : Int} {r : List Int} : totO A (a :: b :: r) = match lagO A a b, totO A (b :: r) with | some x, some y => some (x + y) | _, _ => none := rfl
theorem totO_one {A : List Arc} {a : Int} : totO A [a] = some 0 := rfl
theorem totO_cons_iff {A : List Arc} {a b : Int} {r : List Int} {t : Int} : totO A (a :: b :: r) = some t ↔ ∃ x y, lagO A a b = some x ∧ totO A (b :: r) = some y ∧ t = x + y := by
  rw [totO_cc]
  cases lagO A a b <;> cases totO A (b :: r) <;> simp [eq_comm]
theorem totO_app {A : List Arc} {v : Int} {w : List Int} : ∀ {u : List Int} {t : Int}, totO A (u ++ v :: w) = some t ↔ ∃ x y, totO A (u ++ [v]) = some x ∧ totO A (v :: w) = some y ∧ t = x + y
  | [], t => by simp [totO_one, eq_comm]
  | [a], t => by
    simp only [List.cons_append, List.nil_append, totO_cons_iff, totO_one]
    constructor
    · rintro ⟨x, y, h1, h2, rfl⟩; exact ⟨x, y, ⟨x, 0, h1, rfl, by omega⟩, h2, rfl⟩
    · rintro ⟨_, y, ⟨x, z, h1, h3, rfl⟩, h2, rfl⟩; cases h3; exact ⟨x, y, h1, h2, by omega⟩
  | a :: b :: u, t => by
    have ih := fun t => totO_app (A := A) (v := v) (w := w) (u := b :: u) (t := t)
    simp only [List.cons_append, totO_cons_iff] at ih ⊢
    constructor
    · rintro ⟨x, y, h1, h2, rfl⟩
      obtain ⟨x', y', k1, k2, rfl⟩ := (ih y).mp h2
      exact ⟨x + x', y', ⟨x, x', h1, k1, rfl⟩, k2, by omega⟩
    · rintro ⟨_, y, ⟨x, z, h1, h3, rfl⟩, h2, rfl⟩
      exact ⟨x, z + y, h1, (ih _).mpr ⟨z, y, h3, h2, rfl⟩, by omega⟩
theorem totO_snoc {A : List Arc} {u : List Int} {p q x l : Int} (h : totO A (u ++ [p]) = some x) (hl : lagO A p q = some l) : totO A (u ++ [p] ++ [q]) = some (x + l) := by
  rw [List.append_assoc]
  exact totO_app.mpr ⟨x, l, h, totO_cons_iff.mpr ⟨l, 0, hl, rfl, by omega⟩, rfl⟩
theorem totO_le {A : List Arc} {M : Int} (h0 : 0 ≤ M) (hM : ∀ e ∈ A, e.2.2 ≤ M) : ∀ {c : List Int} {t : Int}, totO A c = some t → t ≤ c.length * M
  | [], t, h => by cases h; simp
  | [a], t, h => by cases h; simpa using h0
  | a :: b :: r, t, h => by
    obtain ⟨x, y, h1, h2, rfl⟩ := totO_cons_iff.mp h
    have i := totO_le h0 hM h2
    have j := hM _ (lagO_mem h1)
    simp only [List.length_cons] at i ⊢
    have e : (((r.length + 1 + 1 : Nat) : Int)) * M = ((r.length + 1 : Nat) : Int) * M + M := by push_cast; rw [Int.add_mul _ 1]; omega
    rw [e]
    have j' : x ≤ M := j
    omega
theorem nd_len : ∀ (N : Nat) (l : List Int), l.Nodup → (∀ v ∈ l, 0 ≤ v ∧ v < N) → l.length ≤ N
  | 0, [], _, _ => Nat.le_refl _
  | 0, v :: l, _, h => by have := h v List.mem_cons_self; omega
  | N + 1, l, nd, h => by
    have ih := nd_len N (l.erase (N : Int)) (nd.erase _) fun v hv => by
      rw [nd.mem_erase_iff] at hv
      have := h v hv.2
      omega
    have : l.length ≤ (l.erase (N : Int)).length + 1 := by
      rw [List.length_erase]; split <;> omega
    omega
structure BF (A : List Arc) (N : Nat) (T : Int → Int) (C : Int → List Int) : Prop where
  last : ∀ i : Int, 0 ≤ i → i < N → (C i).getLast? = some i
  nd : ∀ i : Int, 0 ≤ i → i < N → (C i).Nodup
  mem : ∀ i : Int, 0 ≤ i → i < N → ∀ v ∈ C i, 0 ≤ v ∧ v < N
  tot : ∀ i : Int, 0 ≤ i → i < N → totO A (C i) = some (T i)
  pre : ∀ i : Int, 0 ≤ i → i < N → ∀ u v w, C i = u ++ v :: w → ∃ t, totO A (u ++ [v]) = some t ∧ t ≤ T v
  nn : ∀ i : Int, 0 ≤ i → i < N → 0 ≤ T i
def setI {α : Type} (f : Int → α) (q : Int) (v : α) : Int → α := fun i => if i = q then v else f i
theorem setI_same {α : Type} {f : Int → α} {q : Int} {v : α} : setI f q v q = v := by simp [setI]
theorem setI_ne {α : Type} {f : Int → α} {q i : Int} {v : α} (h : i ≠ q) : setI f q v i = f i := by simp [setI, h]
section
variable {A : List Arc} {N : Nat} {T : Int → Int} {C : Int → List Int}
theorem BF.start : BF A N (fun _ => 0) (fun i => [i]) where
  last := fun i _ _ => rfl
  nd := fun i _ _ => by simp
  mem := fun i h1 h2 v hv => by simp at hv; subst hv; exact ⟨h1, h2⟩
  tot := fun i _ _ => rfl
  pre := fun i _ _ u v w e => by
    cases u with
    | nil => exact ⟨0, rfl, Int.le_refl _⟩
    | cons a u => have := congrArg List.length e; simp at this <;> omega
  nn := fun _ _ _ => Int.le_refl _
theorem last_app {c : List Int} {p : Int} (h : c.getLast? = some p) : ∃ u, c = u ++ [p] := List.getLast?_eq_some_iff.mp h
theorem BF.step (b : BF A N T C) {p q l : Int} (hp : 0 ≤ p) (hp' : p < N) (hq : 0 ≤ q) (hq' : q < N) (hl : lagO A p q = some l) (hn : q ∉ C p) (hT : T q < T p + l) : BF A N (setI T q (T p + l)) (setI C q (C p ++ [q])) := by
  obtain ⟨u0, e0⟩ := last_app (b.last p hp hp')
  have tl : totO A (C p ++ [q]) = some (T p + l) := by
    have := b.tot p hp hp'
    rw [e0] at this ⊢
    exact totO_snoc this hl
  have up : ∀ v t, t ≤ T v → t ≤ setI T q (T p + l) v := fun v t h => by
    by_cases z : v = q
    · subst z; rw [setI_same]; omega
    · rw [setI_ne z]; exact h
  refine ⟨fun i h1 h2 => ?_, fun i h1 h2 => ?_, fun i h1 h2 => ?_, fun i h1 h2 => ?_, fun i h1 h2 u v w e => ?_, fun i h1 h2 => ?_⟩
  · by_cases z : i = q
    · subst z; rw [setI_same]; simp
    · rw [setI_ne z]; exact b.last i h1 h2
  · by_cases z : i = q
    · subst z; rw [setI_same]
      rw [List.nodup_append]
      refine ⟨b.nd p hp hp', by simp, fun a ha c hc => ?_⟩
      rw [List.mem_singleton.mp hc]
      exact fun z => hn (z ▸ ha)
    · rw [setI_ne z]; exact b.nd i h1 h2
  · by_cases z : i = q
    · subst z; rw [setI_same]
      intro v hv
      rcases List.mem_append.mp hv with hv | hv
      · exact b.mem p hp hp' v hv
      · rw [List.mem_singleton.mp hv]; exact ⟨hq, hq'⟩
    · rw [setI_ne z]; exact b.mem i h1 h2
  · by_cases z : i = q
    · subst z; rw [setI_same, setI_same]; exact tl
    · rw [setI_ne z, setI_ne z]; exact b.tot i h1 h2
  · by_cases z : i = q
    · subst z
      rw [setI_same] at e
      rcases List.eq_nil_or_concat w with hw | ⟨w', y, hw⟩
      · subst hw
        have e2 : C p ++ [i] = u ++ [v] := e
        obtain ⟨e3, e4⟩ := List.append_inj' e2 rfl
        cases e4
        rw [← e2]
        exact ⟨_, tl, by rw [setI_same]; omega⟩
      · subst hw
        rw [List.concat_eq_append] at e
        have e2 : C p ++ [i] = (u ++ v :: w') ++ [y] := by rw [e]; simp
        obtain ⟨e3, e4⟩ := List.append_inj' e2 rfl
        obtain ⟨t, k1, k2⟩ := b.pre p hp hp' u v w' e3
        exact ⟨t, k1, up _ _ k2⟩
    · rw [setI_ne z] at e
      obtain ⟨t, k1, k2⟩ := b.pre i h1 h2 u v w e
      exact ⟨t, k1, up _ _ k2⟩
  · exact up _ _ (b.nn i h1 h2)
theorem BF.ring (b : BF A N T C) {p q l : Int} (hp : 0 ≤ p) (hp' : p < N) (hl : lagO A p q = some l) (hT : T q < T p + l) {u w : List Int} (e : C p = u ++ q :: w) : ∃ t, totO A (q :: w ++ [q]) = some t ∧ 0 < t := by
  have t0 := b.tot p hp hp'
  obtain ⟨t1, k1, k2⟩ := b.pre p hp hp' u q w e
  rw [e] at t0
  obtain ⟨x, y, h1, h2, h3⟩ := totO_app.mp t0
  rw [k1] at h1
  cases h1
  have lst := b.last p hp hp'
  rw [e] at lst
  have lst2 : (q :: w).getLast? = some p := by simpa [List.getLast?_append] using lst
  obtain ⟨u0, e0⟩ := last_app lst2
  refine ⟨y + l, ?_, by omega⟩
  rw [e0] at h2 ⊢
  exact totO_snoc h2 hl
theorem BF.le (b : BF A N T C) {M : Int} (h0 : 0 ≤ M) (hM : ∀ e ∈ A, e.2.2 ≤ M) {i : Int} (h1 : 0 ≤ i) (h2 : i < N) : T i ≤ N * M := by
  have h := totO_le h0 hM (b.tot i h1 h2)
  have hl : (C i).length ≤ N := by
    exact nd_len N (C i) (b.nd i h1 h2) (b.mem i h1 h2)
  have : ((C i).length : Int) * M ≤ N * M := Int.mul_le_mul_of_nonneg_right (by omega) h0
  omega
end
def room3 (B : Int) (T : Int → Int) : Nat → Nat
  | 0 => 0
  | n + 1 => room3 B T n + (B - T n).toNat
def rngM (N : Nat) (f : Int → W) : List W := (List.range N).map fun i : Nat => f i
theorem rngM_congr {N : Nat} {f f' : Int → W} (h : ∀ i : Int, 0 ≤ i → i < N → f i = f' i) : rngM N f = rngM N f' := by
  unfold rngM
  exact List.map_congr_left fun i hi => h i (by omega) (by have := List.mem_range.mp hi; omega)
structure ES (g g' : G) (N : Nat) (td cd rd : Addr) (R : List Arc) (T : Int → Int) (C : Int → List Int) (cs : Int → Addr) : Prop where
  ext : Ext g g'
  t : g' td = some (.lst (rngM N fun i => .int (T i)))
  c : g' cd = some (.lst (rngM N fun i => .ref (cs i)))
  r : g' rd = some (.lst (R.map arcW))
  ch : ∀ i : Int, 0 ≤ i → i < N → g' (cs i) = some (.lst ((C i).map W.int)) ∧ cs i ≠ td ∧ cs i ≠ cd
  tc : td ≠ cd
  tr : td ≠ rd
  cr : cd ≠ rd
  gt : g td = none
  gc : g cd = none
theorem ES.upd {g g' : G} {N : Nat} {td cd rd : Addr} {R : List Arc} {T : Int → Int} {C : Int → List Int} {cs : Int → Addr} (e : ES g g' N td cd rd R T C cs) {q v : Int} {X : List Int} {b1 b2 : Addr} {o : GO} (h1 : gup g' td (.lst (rngM N (setI (fun i => .int (T i)) q (.int v)))) b1 = none)
    (h2 : gup (gup g' td (.lst (rngM N (setI (fun i => .int (T i)) q (.int v))))) b1 o b2 = none) :
    ES g (gup (gup (gup (gup g' td (.lst (rngM N (setI (fun i => .int (T i)) q (.int v))))) b1 o) b2 (.lst (X.map W.int))) cd (.lst (rngM N (setI (fun i => .ref (cs i)) q (.ref b2))))) N td cd rd R (setI T q v) (setI C q X) (setI cs q b2) := by
  have n1 : b1 ≠ td := fun z => by subst z; rw [gup_same] at h1; cases h1
  rw [gup_ne n1] at h1
  have n2 : b2 ≠ b1 := fun z => by subst z; rw [gup_same] at h2; cases h2
  rw [gup_ne n2] at h2
  have n3 : b2 ≠ td := fun z => by subst z; rw [gup_same] at h2; cases h2
  rw [gup_ne n3] at h2
  have of1 : ∀ {a : Addr} {u : GO}, g' a = some u → a ≠ b1 ∧ a ≠ b2 := fun h => ⟨(fun z => by subst z; rw [h1] at h; cases h), (fun z => by subst z; rw [h2] at h; cases h)⟩
  obtain ⟨tb1, tb2⟩ := of1 e.t
  obtain ⟨cb1, cb2⟩ := of1 e.c
  obtain ⟨rb1, rb2⟩ := of1 e.r
  have eT : rngM N (setI (fun i => W.int (T i)) q (.int v)) = rngM N fun i => .int (setI T q v i) := rngM_congr fun i _ _ => by unfold setI; split <;> rfl
  have eC : rngM N (setI (fun i => W.ref (cs i)) q (.ref b2)) = rngM N fun i => .ref (setI cs q b2 i) := rngM_congr fun i _ _ => by unfold setI; split <;> rfl
  refine ⟨fun a u ha => ?_, ?_, ?_, ?_, fun i h0 hi => ?_, e.tc, e.tr, e.cr, e.gt, e.gc⟩
  · have k := e.ext a u ha
    obtain ⟨k1, k2⟩ := of1 k
    rw [gup_ne (fun z => by subst z; rw [e.gc] at ha; cases ha), gup_ne k2, gup_ne k1, gup_ne (fun z => by subst z; rw [e.gt] at ha; cases ha)]
    exact k
  · rw [gup_ne e.tc, gup_ne tb2, gup_ne tb1, gup_same, eT]
  · rw [gup_same, eC]
  · rw [gup_ne (Ne.symm e.cr), gup_ne rb2, gup_ne rb1, gup_ne (Ne.symm e.tr)]; exact e.r
  · by_cases z : i = q
    · subst z
      rw [setI_same, setI_same]
      exact ⟨by rw [gup_ne (Ne.symm cb2), gup_same], n3, Ne.symm cb2⟩
    · rw [setI_ne z, setI_ne z]
      obtain ⟨k, k1, k2⟩ := e.ch i h0 hi
      obtain ⟨k3, k4⟩ := of1 k
      exact ⟨by rw [gup_ne k2, gup_ne k4, gup_ne k3, gup_ne k1]; exact k, k1, k2⟩
end L3
namespace L3
open PySem L2 PySem.W
def encS : W → PyData
  | .str x => .str x
  | _ => .none
def leStr (a b : Str) : Bool := decide (a.cps.toList ≤ b.cps.toList)
def srt (l : List Str) : List Str := l.mergeSort leStr
theorem srt_map (l : List Str) : (l.map W.str).mergeSort (dataLe false encS) = (srt l).map W.str := by
  unfold srt
  rw [List.map_mergeSort]
  intro a _ b _
  have := congrFun (congrFun (dataLe_str (fun s : Str => s)) a) b
  exact this.symm
theorem sort_strs {l : List Str} {g : G} {q : VK3} (h : newL g ((srt l).map W.str) q) : sortL (l.map W.str) g q := by
  refine ⟨encS, fun x hx => ?_, ?_, ?_, fun x hx => ?_, by rw [srt_map]; exact h⟩
  · obtain ⟨y, _, rfl⟩ := List.mem_map.mp hx; exact DW.str y
  · intro d hd d' hd'
    obtain ⟨x, hx, rfl⟩ := List.mem_map.mp hd
    obtain ⟨x', hx', rfl⟩ := List.mem_map.mp hd'
    obtain ⟨y, _, rfl⟩ := List.mem_map.mp hx
    obtain ⟨y', _, rfl⟩ := List.mem_map.mp hx'
    rfl
  · refine .inr fun d hd => ?_
    obtain ⟨x, hx, rfl⟩ := List.mem_map.mp hd
    obtain ⟨y, _, rfl⟩ := List.mem_map.mp hx
    exact ⟨(fun z => nomatch z), fun xs z => nomatch z⟩
  · obtain ⟨y, _, rfl⟩ := List.mem_map.mp hx
    exact Nat.le_of_ble_eq_true rfl
theorem leStr_trans (a b c : Str) (h1 : leStr a b = true) (h2 : leStr b c = true) : leStr a c = true := by
  simp only [leStr, decide_eq_true_eq] at *
  exact List.le_trans h1 h2
theorem leStr_total (a b : Str) : (leStr a b || leStr b a) = true := by
  simp only [leStr, Bool.or_eq_true, decide_eq_true_eq]
  exact List.le_total _ _
inductive Reach (Ps : List (Str × Str)) (good : Str) : Str → Prop
  | base : Reach Ps good good
  | step {u v : Str} : Reach Ps good u → (u, v) ∈ Ps → Reach Ps good v
end L3
namespace L3
open PySem L2 PySem.W
section
variable {g : G} {q : VK3} {xs ys : List W} {a p : Addr} {f m : Str} {c : Nat} {fs : List (Str × W)} {neg : Bool} {v : W}
theorem addS_lr : addS (.lv xs) (.ref a) g q = lstAt g a fun ys => xs.length + ys.length ≤ sizeLine ∧ newL g (xs ++ ys) q := rfl
theorem addS_rl : addS (.ref a) (.lv ys) g q = lstAt g a fun xs => xs.length + ys.length ≤ sizeLine ∧ newL g (xs ++ ys) q := rfl
theorem addS_ll : addS (.lv xs) (.lv ys) g q = (xs.length + ys.length ≤ sizeLine ∧ newL g (xs ++ ys) q) := rfl
theorem isS_l : isS neg (.lv xs) .non g q = q (.bl neg) g := rfl
theorem lenS_lv : lenS [.lv xs] g q = q (.int xs.length) g := rfl
theorem listS_lv : listS [.lv xs] g q = newL g xs q := rfl
theorem walkS_lv {r : List W → (G → Prop) → G → Prop} : walkS (.lv xs) g r = r xs (fun _ => True) g := rfl
theorem walkL_lv {r : List W → (G → Prop) → G → Prop} : walkL (.lv xs) g r = r xs (fun _ => True) g := rfl
def attrM (f : Str) (o : Option GO) (g : G) (q : VK3) : Prop := match o with
  | some (.ins _ fs) => match fs.lookup f with
    | some v => q v g
    | none => False
  | _ => False
theorem attrS_r : attrS f (.ref p) g q = attrM f (g p) g q := rfl
theorem attr_of (h : g p = some (.ins c fs)) (e : fs.lookup f = some v) (hq : q v g) : attrS f (.ref p) g q := by
  rw [attrS_r, h]; simp only [attrM, e]; exact hq
theorem seta_of {k : G → Prop} (h : g p = some (.ins c fs)) (hl : fs.length < 1000) (hk : k (gup g p (.ins c (putG f v fs)))) : setaS f (.ref p) v g k := by
  simp only [setaS, h]; exact ⟨hl, hk⟩
theorem mc_of {ocs : List OC3} {k : Nat → Prop} {n : Nat} (h : g p = some (.ins c fs)) (e : mnum ocs c m = some n) (hk : k n) : mcS ocs m (.ref p) g k := by
  simp only [mcS, h]; exact ⟨n, e, hk⟩
theorem ne_free {o : GO} (h : g a = some o) (n : g p = none) : a ≠ p := fun z => by subst z; rw [h] at n; cases n
end
theorem gup_eta {g : G} {p : Addr} {o : GO} (h : g p = some o) : gup g p o = g := gup_self h
class WD (α : Type) [DecidableEq α] [Datum α] where
  w : α → W
  hw : ∀ (g : G) (x : α), DW g (w x) (Datum.toD x)
instance : WD Int := ⟨W.int, fun _ x => DW.int x⟩
instance : WD Bool := ⟨W.bl, fun _ x => DW.bl x⟩
instance : WD Str := ⟨W.str, fun _ x => DW.str x⟩
instance {α β : Type} [DecidableEq α] [Datum α] [WD α] [DecidableEq β] [Datum β] [WD β] : WD (α × β) := ⟨fun p => .tup [WD.w p.1, WD.w p.2], fun g p => hw_pair (WD.hw g p.1) (WD.hw g p.2)⟩
instance {α : Type} [DecidableEq α] [Datum α] [WD α] : WD (List α) := ⟨fun xs => .lv (xs.map WD.w), fun g xs => by
  have h := hw_get (g := g) (ws := xs.map WD.w) (xs := xs) (by simp) fun i w x e1 e2 => by
    rw [List.getElem?_map, e2] at e1; cases e1; exact WD.hw g x
  exact DW.lv h.1 h.2⟩
instance {α : Type} [DecidableEq α] [Datum α] [WD α] : WD (Tup α) := ⟨fun t => .tup (t.items.map WD.w), fun g t => by
  have h := hw_get (g := g) (ws := t.items.map WD.w) (xs := t.items) (by simp) fun i w x e1 e2 => by
    rw [List.getElem?_map, e2] at e1; cases e1; exact WD.hw g x
  exact DW.tup h.1 h.2⟩
theorem dw_tup3 {g : G} {a b c : W} {d e f : PyData} (h1 : DW g a d) (h2 : DW g b e) (h3 : DW g c f) : DW g (.tup [a, b, c]) (.tuple [d, e, f]) :=
  DW.tup rfl fun i w u e1 e2 => match i, e1, e2 with
    | 0, e1, e2 => by cases e1; cases e2; exact h1
    | 1, e1, e2 => by cases e1; cases e2; exact h2
    | 2, e1, e2 => by cases e1; cases e2; exact h3
    | i + 3, e1, e2 => by simp at e1
theorem dw_tup4 {g : G} {a b c d' : W} {d e f h : PyData} (h1 : DW g a d) (h2 : DW g b e) (h3 : DW g c f) (h4 : DW g d' h) : DW g (.tup [a, b, c, d']) (.tuple [d, e, f, h]) :=
  DW.tup rfl fun i w u e1 e2 => match i, e1, e2 with
    | 0, e1, e2 => by cases e1; cases e2; exact h1
    | 1, e1, e2 => by cases e1; cases e2; exact h2
    | 2, e1, e2 => by cases e1; cases e2; exact h3
    | 3, e1, e2 => by cases e1; cases e2; exact h4
    | i + 4, e1, e2 => by simp at e1
section
variable {α : Type} [DecidableEq α] [Datum α] [WD α] {g : G} {q : VK3} {neg : Bool} {x y : α} {xs : List α}
theorem eqS_w (hd : Datum.depth α ≤ 64 := by decide) (h : q (.bl (xor neg (decide (x = y)))) g) : eqS neg (WD.w x) (WD.w y) g q := eqS_hw (WD.hw g x) (WD.hw g y) hd h
theorem inS_w (hd : Datum.depth α ≤ 64 := by decide) (h : q (.bl (xor neg (decide (x ∈ xs)))) g) : inS neg (WD.w x) (.lv (xs.map WD.w)) g q := by
  have key : ∀ u : W, DW g u (Datum.toD x) → inS neg u (.lv (xs.map WD.w)) g q := fun u hu => by
    have e : inS neg u (.lv (xs.map WD.w)) g q = ((flatW u = true ∧ (xs.map WD.w).all flatW = true ∧ q (.bl (xor neg ((xs.map WD.w).any fun z => eqW z u))) g) ∨
      ∃ d ds, DW g u d ∧ DW g (.lv (xs.map WD.w)) (.list ds) ∧ d.plain = true ∧ PyData.plainAll ds = true ∧ d.depth ≤ 64 ∧ q (.bl (xor neg (ds.any fun z => PyData.eqv z d))) g) := by cases u <;> rfl
    rw [e]
    exact .inr ⟨Datum.toD x, xs.map Datum.toD, hu, WD.hw g xs, Datum.plain x, plainAll_map xs, Nat.le_trans (Datum.depth_le x) hd, by rw [any_datum]; exact h⟩
  exact key _ (WD.hw g x)
end
section
variable {α : Type} [DecidableEq α] [DatumOrd α] [WD α] {g : G} {q : VK3} {x y : α} {xs : List α}
theorem ord_w {fi : Int → Int → Bool} {fs : Str → Str → Bool} {fd : PyData → PyData → Bool} (hi : ∀ i j : Int, fi i j = fd (.int i) (.int j)) (hs : ∀ i j : Str, fs i j = fd (.str i) (.str j)) (hd : Datum.depth α ≤ 64)
    (h : q (.bl (fd (Datum.toD x) (Datum.toD y))) g) (hn : Datum.toD x ≠ .none) (ha : alike (Datum.toD x) (Datum.toD y) = true) : ordS fi fs fd (WD.w x) (WD.w y) g q := by
  have h1 := WD.hw g x
  have h2 := WD.hw g y
  unfold ordS
  split
  · rename_i i j e1 e2
    rw [e1] at h1; rw [e2] at h2
    have z1 : Datum.toD x = .int i := by generalize Datum.toD x = d at h1; cases h1; rfl
    have z2 : Datum.toD y = .int j := by generalize Datum.toD y = d at h2; cases h2; rfl
    rw [hi, ← z1, ← z2]; exact h
  · rename_i i j e1 e2
    rw [e1] at h1; rw [e2] at h2
    have z1 : Datum.toD x = .str i := by generalize Datum.toD x = d at h1; cases h1; rfl
    have z2 : Datum.toD y = .str j := by generalize Datum.toD y = d at h2; cases h2; rfl
    rw [hs, ← z1, ← z2]; exact h
  · exact ⟨_, _, h1, h2, ha, hn, Nat.le_trans (Datum.depth_le x) hd, h⟩
theorem lt_w (hd : Datum.depth α ≤ 64 := by decide) (h : q (.bl (DatumOrd.lt x y)) g) : ltS (WD.w x) (WD.w y) g q :=
  ord_w (fun i j => (dataLt_int i j).symm) (fun i j => (dataLt_str i j).symm) hd (by rw [DatumOrd.lt_eq]; exact h) (DatumOrd.notNone x) (DatumOrd.alike x y)
end
end L3
set_option maxRecDepth 100000
set_option maxHeartbeats 4000000
namespace L3
open PySem L2 PySem.W
class OrdL (α : Type) [DecidableEq α] [DatumOrd α] : Prop where
  irr : ∀ a : α, DatumOrd.lt a a = false
  tr : ∀ a b c : α, DatumOrd.lt a b = true → DatumOrd.lt b c = true → DatumOrd.lt a c = true
  tri : ∀ a b : α, a ≠ b → DatumOrd.lt a b = true ∨ DatumOrd.lt b a = true
instance : OrdL Int where
  irr a := by show decide (a < a) = false; simp
  tr a b c := by show decide (a < b) = true → decide (b < c) = true → decide (a < c) = true; simp only [decide_eq_true_eq]; omega
  tri a b := by show a ≠ b → decide (a < b) = true ∨ decide (b < a) = true; simp only [decide_eq_true_eq]; omega
instance : OrdL Str where
  irr a := by show decide (a.cps.toList < a.cps.toList) = false; simp [List.lt_irrefl]
  tr a b c := by show decide (a.cps.toList < b.cps.toList) = true → decide (b.cps.toList < c.cps.toList) = true → decide (a.cps.toList < c.cps.toList) = true; simp only [decide_eq_true_eq]; exact fun h1 h2 => List.lt_trans h1 h2
  tri a b := by
    show a ≠ b → decide (a.cps.toList < b.cps.toList) = true ∨ decide (b.cps.toList < a.cps.toList) = true
    intro h
    simp only [decide_eq_true_eq]
    by_cases h1 : a.cps.toList < b.cps.toList
    · exact .inl h1
    · by_cases h2 : b.cps.toList < a.cps.toList
      · exact .inr h2
      · exfalso
        have e := List.le_antisymm (List.not_lt.mp h2) (List.not_lt.mp h1)
        apply h
        cases a; cases b
        simp only [Str.mk.injEq]
        exact Array.toList_inj.mp e
section
variable {α β γ δ : Type} [DecidableEq α] [DatumOrd α] [DecidableEq β] [DatumOrd β] [DecidableEq γ] [DatumOrd γ] [DecidableEq δ] [DatumOrd δ]
instance [OrdL α] [OrdL β] : OrdL (α × β) where
  irr a := by show (if a.1 = a.1 then DatumOrd.lt a.2 a.2 else DatumOrd.lt a.1 a.1) = false; rw [if_pos rfl]; exact OrdL.irr _
  tr a b c := by
    show (if a.1 = b.1 then DatumOrd.lt a.2 b.2 else DatumOrd.lt a.1 b.1) = true → (if b.1 = c.1 then DatumOrd.lt b.2 c.2 else DatumOrd.lt b.1 c.1) = true → (if a.1 = c.1 then DatumOrd.lt a.2 c.2 else DatumOrd.lt a.1 c.1) = true
    intro h1 h2
    by_cases e1 : a.1 = b.1
    · rw [if_pos e1] at h1
      by_cases e2 : b.1 = c.1
      · rw [if_pos e2] at h2; rw [if_pos (e1.trans e2)]; exact OrdL.tr _ _ _ h1 h2
      · rw [if_neg e2] at h2; rw [e1, if_neg e2]; exact h2
    · rw [if_neg e1] at h1
      by_cases e2 : b.1 = c.1
      · rw [if_pos e2] at h2; rw [← e2, if_neg e1]; exact h1
      · rw [if_neg e2] at h2
        have h3 := OrdL.tr _ _ _ h1 h2
        rw [if_neg (fun z => by rw [z, OrdL.irr] at h3; cases h3)]; exact h3
  tri a b := by
    show a ≠ b → (if a.1 = b.1 then DatumOrd.lt a.2 b.2 else DatumOrd.lt a.1 b.1) = true ∨ (if b.1 = a.1 then DatumOrd.lt b.2 a.2 else DatumOrd.lt b.1 a.1) = true
    intro h
    by_cases e : a.1 = b.1
    · rw [if_pos e, if_pos e.symm]; exact OrdL.tri _ _ fun z => h (Prod.ext e z)
    · rw [if_neg e, if_neg (Ne.symm e)]; exact OrdL.tri _ _ e
theorem listLt_irr [OrdL α] : ∀ l : List α, listLt l l = false
  | [] => rfl
  | x :: l => by rw [listLt, if_pos rfl]; exact listLt_irr l
theorem listLt_tr [OrdL α] : ∀ a b c : List α, listLt a b = true → listLt b c = true → listLt a c = true
  | [], [], _, h, _ => by cases h
  | [], _ :: _, [], _, h => by cases h
  | [], _ :: _, _ :: _, _, _ => rfl
  | _ :: _, [], _, h, _ => by cases h
  | _ :: _, _ :: _, [], _, h => by cases h
  | x :: a, y :: b, z :: c, h1, h2 => by
    rw [listLt] at h1 h2 ⊢
    by_cases e1 : x = y
    · rw [if_pos e1] at h1
      by_cases e2 : y = z
      · rw [if_pos e2] at h2; rw [if_pos (e1.trans e2)]; exact listLt_tr _ _ _ h1 h2
      · rw [if_neg e2] at h2; rw [e1, if_neg e2]; exact h2
    · rw [if_neg e1] at h1
      by_cases e2 : y = z
      · rw [if_pos e2] at h2; rw [← e2, if_neg e1]; exact h1
      · rw [if_neg e2] at h2
        have h3 := OrdL.tr _ _ _ h1 h2
        rw [if_neg (fun z => by rw [z, OrdL.irr] at h3; cases h3)]; exact h3
theorem listLt_tri [OrdL α] : ∀ a b : List α, a ≠ b → listLt a b = true ∨ listLt b a = true
  | [], [], h => absurd rfl h
  | [], _ :: _, _ => .inl rfl
  | _ :: _, [], _ => .inr rfl
  | x :: a, y :: b, h => by
    rw [listLt, listLt]
    by_cases e : x = y
    · subst e; rw [if_pos rfl, if_pos rfl]; exact listLt_tri a b fun z => h (by rw [z])
    · rw [if_neg e, if_neg (Ne.symm e)]; exact OrdL.tri _ _ e
instance [OrdL α] : OrdL (List α) := ⟨listLt_irr, listLt_tr, listLt_tri⟩
instance [OrdL α] : OrdL (Tup α) := ⟨fun a => listLt_irr a.items, fun a b c => listLt_tr a.items b.items c.items, fun a b h => listLt_tri a.items b.items fun z => h (by cases a; cases b; simp at z; rw [z])⟩
def t3p (p : PySem.W.T3 α β γ) : α × β × γ := (p.a, p.b, p.c)
theorem t3p_inj {p q : PySem.W.T3 α β γ} (h : t3p p = t3p q) : p = q := by
  simp only [t3p, Prod.mk.injEq] at h; exact PySem.W.T3.same h.1 h.2.1 h.2.2
theorem t3p_lt (p q : PySem.W.T3 α β γ) : DatumOrd.lt p q = DatumOrd.lt (t3p p) (t3p q) := rfl
instance [OrdL α] [OrdL β] [OrdL γ] : OrdL (PySem.W.T3 α β γ) := ⟨fun a => by rw [t3p_lt]; exact OrdL.irr _, fun a b c => by rw [t3p_lt, t3p_lt, t3p_lt]; exact OrdL.tr _ _ _, fun a b h => by rw [t3p_lt, t3p_lt]; exact OrdL.tri _ _ fun z => h (t3p_inj z)⟩
def t4p (p : T4 α β γ δ) : α × β × γ × δ := (p.a, p.b, p.c, p.d)
theorem t4p_inj {p q : T4 α β γ δ} (h : t4p p = t4p q) : p = q := by
  simp only [t4p, Prod.mk.injEq] at h; exact T4.same h.1 h.2.1 h.2.2.1 h.2.2.2
theorem t4p_lt (p q : T4 α β γ δ) : DatumOrd.lt p q = DatumOrd.lt (t4p p) (t4p q) := rfl
instance [OrdL α] [OrdL β] [OrdL γ] [OrdL δ] : OrdL (T4 α β γ δ) := ⟨fun a => by rw [t4p_lt]; exact OrdL.irr _, fun a b c => by rw [t4p_lt, t4p_lt, t4p_lt]; exact OrdL.tr _ _ _, fun a b h => by rw [t4p_lt, t4p_lt]; exact OrdL.tri _ _ fun z => h (t4p_inj z)⟩
instance [WD α] [WD β] [WD γ] : WD (PySem.W.T3 α β γ) := ⟨fun p => .tup [WD.w p.a, WD.w p.b, WD.w p.c], fun g p => dw_tup3 (WD.hw g p.a) (WD.hw g p.b) (WD.hw g p.c)⟩
instance [WD α] [WD β] [WD γ] [WD δ] : WD (T4 α β γ δ) := ⟨fun p => .tup [WD.w p.a, WD.w p.b, WD.w p.c, WD.w p.d], fun g p => dw_tup4 (WD.hw g p.a) (WD.hw g p.b) (WD.hw g p.c) (WD.hw g p.d)⟩
end
section
variable {α : Type} [DecidableEq α] [DatumOrd α] [OrdL α]
def oLe (a b : α) : Bool := !DatumOrd.lt b a
theorem oLe_total (a b : α) : (oLe a b || oLe b a) = true := by
  unfold oLe
  cases h1 : DatumOrd.lt b a with
  | false => rfl
  | true => cases h2 : DatumOrd.lt a b with
    | false => rfl
    | true => have := OrdL.tr _ _ _ h1 h2; rw [OrdL.irr] at this; cases this
theorem oLe_trans (a b c : α) (h1 : oLe a b = true) (h2 : oLe b c = true) : oLe a c = true := by
  unfold oLe at *
  cases h : DatumOrd.lt c a with
  | false => rfl
  | true =>
    exfalso
    have h1 : DatumOrd.lt b a = false := by simpa using h1
    have h2 : DatumOrd.lt c b = false := by simpa using h2
    by_cases e : a = b
    · subst e; rw [h2] at h; cases h
    · rcases OrdL.tri a b e with k | k
      · have := OrdL.tr _ _ _ h k; rw [h2] at this; cases this
      · rw [h1] at k; cases k
def srtd (l : List α) : List α := l.mergeSort oLe
end
theorem dw_fn {g : G} {w : W} {d : PyData} (h : DW g w d) : ∀ d', DW g w d' → d = d' := by
  have list : ∀ {xs : List W} {ds ds' : List PyData}, xs.length = ds.length → xs.length = ds'.length → (∀ (i : Nat) (x : W) (d : PyData), xs[i]? = some x → ds[i]? = some d → ∀ d', DW g x d' → d = d') →
      (∀ (i : Nat) (x : W) (d : PyData), xs[i]? = some x → ds'[i]? = some d → DW g x d) → ds = ds' := fun {xs ds ds'} n n' k k' => by
    refine List.ext_getElem (by omega) fun i h1 h2 => ?_
    have hx : i < xs.length := by omega
    exact k i _ _ (List.getElem?_eq_getElem hx) (List.getElem?_eq_getElem h1) _ (k' i _ _ (List.getElem?_eq_getElem hx) (List.getElem?_eq_getElem h2))
  induction h with
  | non => intro d' h'; cases h'; rfl
  | bl b => intro d' h'; cases h'; rfl
  | int b => intro d' h'; cases h'; rfl
  | str b => intro d' h'; cases h'; rfl
  | lst e n k ih =>
    intro d' h'
    cases h' with
    | lst e' n' k' => rw [e] at e'; cases e'; exact congrArg PyData.list (list n n' ih k')
  | tup n k ih => intro d' h'; cases h' with | tup n' k' => exact congrArg PyData.tuple (list n n' ih k')
  | scr n k ih => intro d' h'; cases h' with | scr n' k' => exact congrArg PyData.list (list n n' ih k')
  | lv n k ih => intro d' h'; cases h' with | lv n' k' => exact congrArg PyData.list (list n n' ih k')
section
variable {α : Type} [DecidableEq α] [DatumOrd α] [OrdL α] [WD α] {g : G} {q : VK3} {xs : List α}
open Classical in
noncomputable def encW (α : Type) [DecidableEq α] [DatumOrd α] [WD α] (w : W) : PyData := if h : ∃ x : α, WD.w x = w then Datum.toD h.choose else .none
theorem encW_w (x : α) : encW α (WD.w x) = Datum.toD x := by
  have h : ∃ y : α, WD.w y = WD.w x := ⟨x, rfl⟩
  unfold encW
  rw [dif_pos h]
  have e := h.choose_spec
  have h1 := WD.hw (fun _ => none) h.choose
  rw [e] at h1
  exact dw_fn h1 _ (WD.hw _ x)
def SortOk (α : Type) [DecidableEq α] [Datum α] : Prop := (∀ x : α, ∃ d r, Datum.toD x = .tuple (d :: r)) ∨ ∀ x : α, Datum.toD x ≠ .none ∧ ∀ xs, Datum.toD x ≠ .tuple xs
end
end L3
set_option maxRecDepth 100000
set_option maxHeartbeats 4000000
namespace L3
open PySem L2 PySem.W
section
variable {α : Type} {f : α → W} {g : G} {q : VK3} {a : Addr} {xs : List α} {k : Nat} {x : α}
theorem ix_m (h : g a = some (.lst (xs.map f))) (e : xs[k]? = some x) (hq : q (f x) g) : ixS (.ref a) (.int (k : Int)) g q := by
  rw [ixL h]; exact ⟨f x, by rw [atI_n, List.getElem?_map, e]; rfl, hq⟩
theorem ixV_m (e : xs[k]? = some x) (hq : q (f x) g) : ixS (.lv (xs.map f)) (.int (k : Int)) g q := ⟨f x, by rw [atI_n, List.getElem?_map, e]; rfl, hq⟩
theorem app_m {v : W} (h : g a = some (.lst (xs.map f))) (hl : xs.length ≤ 100000) (hv : v = f x) (hq : q .non (gup g a (.lst ((xs ++ [x]).map f)))) : appendS (.ref a) [v] g q := by
  simp only [appendS]
  rw [lstAt_of h]
  exact ⟨small_line (by rw [List.length_map]; exact hl), by subst hv; simpa using hq⟩
theorem len_m (h : g a = some (.lst (xs.map f))) : lenS [.ref a] g q = q (.int (xs.length : Nat)) g := by rw [lenL h, List.length_map]
theorem get_lt (h : k < xs.length) : xs[k]? = some xs[k] := List.getElem?_eq_getElem h
end
section
variable {g : G} {q : VK3} {i j : Int}
theorem mul_of (hm : IntMulOk i j) (hq : q (.int (i * j)) g) : mulS (.int i) (.int j) g q := ⟨hm, hq⟩
theorem mod_of (h0 : j ≠ 0) (hq : q (.int (i.fmod j)) g) : modS (.int i) (.int j) g q := ⟨h0, hq⟩
theorem i2_eq {c : Int → Int → Prop} {f : Int → Int → W} (h : c i j) : i2S c f (.int i) (.int j) g q = q (f i j) g := propext ⟨fun h => h.2, fun k => ⟨h, k⟩⟩
theorem lt64 {i : Int} (h1 : -18446744073709551616 < i) (h2 : i < 18446744073709551616) : i.natAbs < 2 ^ 64 := by
  have e : (2 : Nat) ^ 64 = 18446744073709551616 := by decide
  omega
theorem mulS_l (h1 : -18446744073709551616 < i) (h2 : i < 18446744073709551616) : mulS (.int i) (.int j) g q = q (.int (i * j)) g := show i2S IntMulOk (fun i j => .int (i * j)) (.int i) (.int j) g q = q (.int (i * j)) g from i2_eq (IntMulOk.of_left (PyProof.Rows.intBits_le (k := 64) (lt64 h1 h2)))
theorem mulS_r (h1 : -18446744073709551616 < j) (h2 : j < 18446744073709551616) : mulS (.int i) (.int j) g q = q (.int (i * j)) g := show i2S IntMulOk (fun i j => .int (i * j)) (.int i) (.int j) g q = q (.int (i * j)) g from i2_eq (IntMulOk.of_right (PyProof.Rows.intBits_le (k := 64) (lt64 h1 h2)))
theorem fdivS_k (h0 : 0 < j) (h : j < 1073741824) : fdivS (.int i) (.int j) g q = q (.int (i.fdiv j)) g := i2_eq (div_small (by omega) (by omega))
theorem modS_k (h0 : 0 < j) : modS (.int i) (.int j) g q = q (.int (i.fmod j)) g := i2_eq (by omega)
theorem powS_10 (h0 : 0 ≤ j) (h : j ≤ 100000) : powS (.int 10) (.int j) g q = q (.int (10 ^ j.toNat)) g := i2_eq (pow_ok (n := 4) (by decide) h0 (by omega))
theorem powS_2 (h0 : 0 ≤ j) (h : j ≤ 100000) : powS (.int 2) (.int j) g q = q (.int (2 ^ j.toNat)) g := i2_eq (pow_ok (n := 2) (by decide) h0 (by omega))
theorem subS_ii : subS (.int i) (.int j) g q = q (.int (i - j)) g := i2_eq trivial
theorem negS_i : negS (.int i) g q = q (.int (-i)) g := rfl
end
theorem mul_sm {i j : Int} (hi : i.natAbs < 1152921504606846976) (hj : j.natAbs < 1152921504606846976) : IntMulOk i j := mul_ok (a := 60) (b := 60) hi hj (by decide)
section
variable {g : G} {q : VK3} {i j : Int} {z y : Str}
theorem ltS_ii : ltS (.int i) (.int j) g q = q (.bl (decide (i < j))) g := rfl
theorem leS_ii : leS (.int i) (.int j) g q = q (.bl (decide (i ≤ j))) g := rfl
theorem gtS_ii : gtS (.int i) (.int j) g q = q (.bl (decide (j < i))) g := rfl
theorem geS_ii : geS (.int i) (.int j) g q = q (.bl (decide (j ≤ i))) g := rfl
theorem ltS_ss : ltS (.str z) (.str y) g q = q (.bl (decide (z.cps.toList < y.cps.toList))) g := rfl
theorem leS_ss : leS (.str z) (.str y) g q = q (.bl (!decide (y.cps.toList < z.cps.toList))) g := rfl
end
end L3
set_option maxRecDepth 100000
set_option maxHeartbeats 4000000
namespace L3
open PySem L2 PySem.W
section
variable {g : G} {q : VK3} {a : Addr}
end
end L3
set_option maxRecDepth 100000
set_option maxHeartbeats 4000000
set_option exponentiation.threshold 100000
namespace Z
open PySem L2 L3 PySem.W
def top (i : Nat) : Stmt := PySem.Challenge.pw_stovework_k26_stand_in.main.body.getD i (.Pass ⟨0, 0, 0, 0⟩)
def topm (i j : Nat) : Stmt := match top i with
  | .ClassDef _ _ _ b .. => b.getD j (.Pass ⟨0, 0, 0, 0⟩)
  | _ => .Pass ⟨0, 0, 0, 0⟩
def b0_1 : Ss3 := .cons .pass .nil
def b0_0 : Ss3 := .cons (.while_ (.bl true) b0_1) .nil
def b1_1 : Ss3 := .cons (.ret (.bl false)) .nil
def b1_4 : Ss3 := .cons (.ret (.bl false)) .nil
def b1_3 : Ss3 := .cons (.ifS (.cmp .notin (.var 1) (.glob 0)) b1_4 .nil) .nil
def b1_5 : Ss3 := .cons (.ret (.bl true)) .nil
def b1_2 : Ss3 := .cons (.for_ (.name 1) (.str (.var 0)) b1_3) b1_5
def b1_0 : Ss3 := .cons (.ifS (.or (.cons (.not (.isi (.var 0) "str")) (.cons (.not (.cmp2 .le .le (.int 1) (.prim .len (.cons (.var 0) .nil)) (.glob 1))) .nil))) b1_1 .nil) b1_2
def b2_2 : Ss3 := .cons (.expr (.meth .append (.var 2) (.cons (.ix (.var 0) (.ix (.var 2) (.neg (.int 1)))) .nil))) .nil
def b2_3 : Ss3 := .cons (.ret (.frz (.lrev (.var 2)))) .nil
def b2_1 : Ss3 := .cons (.fz 2 (.while_ (.cmp .isnot (.ix (.var 0) (.ix (.var 2) (.neg (.int 1)))) .non) b2_2)) b2_3
def b2_0 : Ss3 := .cons (.set 2 (.lst (.cons (.var 1) .nil))) b2_1
def b3_6 : Ss3 := .cons (.ret (.call 2 (.cons (.var 3) (.cons (.var 6) .nil)))) .nil
def b3_10 : Ss3 := .cons (.expr (.meth .append (.var 4) (.cons (.var 7) .nil))) .nil
def b3_9 : Ss3 := .cons (.put (.var 3) (.var 7) (.var 6)) b3_10
def b3_8 : Ss3 := .cons (.ifS (.cmp .notin (.var 7) (.var 3)) b3_9 .nil) .nil
def b3_11 : Ss3 := .cons (.set 5 (.bin .add (.var 5) (.int 1))) .nil
def b3_7 : Ss3 := .cons (.forK (.name 7) (.keys (.dget2 (.var 0) (.var 6) (.dic false))) b3_8) b3_11
def b3_5 : Ss3 := .cons (.ifS (.cmp .in_ (.var 6) (.var 2)) b3_6 .nil) b3_7
def b3_4 : Ss3 := .cons (.set 6 (.ix (.var 4) (.var 5))) b3_5
def b3_12 : Ss3 := .cons (.ret .non) .nil
def b3_3 : Ss3 := .cons (.fz 4 (.while_ (.cmp .lt (.var 5) (.prim .len (.cons (.var 4) .nil))) b3_4)) b3_12
def b3_2 : Ss3 := .cons (.set 5 (.int 0)) b3_3
def b3_1 : Ss3 := .cons (.set 4 (.lst (.cons (.var 1) .nil))) b3_2
def b3_0 : Ss3 := .cons (.set 3 (.dic1 (.var 1) .non)) b3_1
def b4_0 : Ss3 := .cons (.ret (.and (.cons (.isi (.var 0) "int") (.cons (.not (.isi (.var 0) "bool")) .nil)))) .nil
def b5_1 : Ss3 := .cons (.par 0 1 (.var 1) (.bin .mod (.var 0) (.var 1))) .nil
def b5_2 : Ss3 := .cons (.ret (.prim .abs (.cons (.var 0) .nil))) .nil
def b5_0 : Ss3 := .cons (.while_ (.cmp .ne (.var 1) (.int 0)) b5_1) b5_2
def b6_1 : Ss3 := .cons (.raise_ 0) .nil
def b6_4 : Ss3 := .cons (.set 2 (.neg (.var 2))) .nil
def b6_5 : Ss3 := .cons (.ret (.tup (.cons (.bin .fdiv (.var 0) (.var 2)) (.cons (.bin .fdiv (.var 1) (.var 2)) .nil)))) .nil
def b6_3 : Ss3 := .cons (.ifS (.cmp .lt (.var 1) (.int 0)) b6_4 .nil) b6_5
def b6_2 : Ss3 := .cons (.set 2 (.call 5 (.cons (.var 0) (.cons (.var 1) .nil)))) b6_3
def b6_0 : Ss3 := .cons (.ifS (.or (.cons (.not (.call 4 (.cons (.var 0) .nil))) (.cons (.not (.call 4 (.cons (.var 1) .nil))) (.cons (.cmp .eq (.var 1) (.int 0)) .nil)))) b6_1 .nil) b6_2
def b7_1 : Ss3 := .cons (.ret (.bl false)) .nil
def b7_3 : Ss3 := .cons (.ret (.bl false)) .nil
def b7_4 : Ss3 := .cons (.ret (.and (.cons (.cmp .gt (.ix (.var 0) (.int 1)) (.int 0)) (.cons (.cmp .eq (.call 5 (.cons (.ix (.var 0) (.int 0)) (.cons (.ix (.var 0) (.int 1)) .nil))) (.int 1)) .nil)))) .nil
def b7_2 : Ss3 := .cons (.ifS (.or (.cons (.not (.call 4 (.cons (.ix (.var 0) (.int 0)) .nil))) (.cons (.not (.call 4 (.cons (.ix (.var 0) (.int 1)) .nil))) .nil))) b7_3 .nil) b7_4
def b7_0 : Ss3 := .cons (.ifS (.or (.cons (.not (.isi (.var 0) "tuple")) (.cons (.cmp .ne (.prim .len (.cons (.var 0) .nil)) (.int 2)) .nil))) b7_1 .nil) b7_2
def b8_0 : Ss3 := .cons (.ret (.call 6 (.cons (.bin .mul (.ix (.var 0) (.int 0)) (.ix (.var 1) (.int 0))) (.cons (.bin .mul (.ix (.var 0) (.int 1)) (.ix (.var 1) (.int 1))) .nil)))) .nil
def b9_0 : Ss3 := .cons (.ret (.cmp .lt (.bin .mul (.ix (.var 0) (.int 0)) (.ix (.var 1) (.int 1))) (.bin .mul (.ix (.var 1) (.int 0)) (.ix (.var 0) (.int 1))))) .nil
def b10_6 : Ss3 := .cons (.expr (.meth .append (.var 3) (.cons (.tup (.cons (.frz (.bin .add (.var 4) (.frz (.lst (.cons (.var 7) .nil))))) (.cons (.call 8 (.cons (.var 5) (.cons (.ix (.var 6) (.var 7)) .nil))) .nil))) .nil))) .nil
def b10_5 : Ss3 := .cons (.put (.var 2) (.var 7) (.bl true)) b10_6
def b10_4 : Ss3 := .cons (.ifS (.cmp .notin (.var 7) (.var 2)) b10_5 .nil) .nil
def b10_3 : Ss3 := .cons (.for_ (.name 7) (.seq (.frz (.prim .sorted (.cons (.var 6) .nil)))) b10_4) .nil
def b10_2 : Ss3 := .cons (.set 6 (.dget2 (.var 0) (.ix (.var 4) (.neg (.int 1))) (.dic false))) b10_3
def b10_7 : Ss3 := .cons (.ret (.frz (.var 3))) .nil
def b10_1 : Ss3 := .cons (.fz 3 (.for_ (.tup [4, 5]) (.seq (.var 1)) b10_2)) b10_7
def b10_0 : Ss3 := .cons (.set 3 (.lst .nil)) b10_1
def b11_5 : Ss3 := .cons (.set 4 (.call 10 (.cons (.var 0) (.cons (.var 4) (.cons (.var 2) .nil))))) .nil
def b11_4 : Ss3 := .cons (.set 3 (.frz (.bin .add (.var 3) (.var 4)))) b11_5
def b11_6 : Ss3 := .cons (.ret (.var 3)) .nil
def b11_3 : Ss3 := .cons (.while_ (.cmp .ne (.var 4) (.frz (.lst .nil))) b11_4) b11_6
def b11_2 : Ss3 := .cons (.set 4 (.frz (.lst (.cons (.tup (.cons (.frz (.lst (.cons (.var 1) .nil))) (.cons (.tup (.cons (.int 1) (.cons (.int 1) .nil))) .nil))) .nil)))) b11_3
def b11_1 : Ss3 := .cons (.set 3 (.frz (.lst .nil))) b11_2
def b11_0 : Ss3 := .cons (.set 2 (.dic1 (.var 1) (.bl true))) b11_1
def b12_1 : Ss3 := .cons (.raise_ 1) .nil
def b12_0 : Ss3 := .cons (.ifS (.not (.call 1 (.cons (.var 0) .nil))) b12_1 .nil) .nil
def b13_3 : Ss3 := .cons (.seta (.var 0) "names" (.dic false)) .nil
def b13_2 : Ss3 := .cons (.seta (.var 0) "bars" (.dic false)) b13_3
def b13_1 : Ss3 := .cons (.seta (.var 0) "stands" (.dic false)) b13_2
def b13_0 : Ss3 := .cons (.seta (.var 0) "parts" (.dic false)) b13_1
def b14_1 : Ss3 := .cons (.raise_ 3) .nil
def b14_3 : Ss3 := .cons (.put (.attr (.var 0) "names") (.var 2) (.bl true)) .nil
def b14_2 : Ss3 := .cons (.for_ (.name 2) (.seq (.var 1)) b14_3) .nil
def b14_0 : Ss3 := .cons (.ifS (.cmp .gt (.lset (.frz (.bin .add (.frz (.prim .list (.cons (.attr (.var 0) "names") .nil))) (.var 1)))) (.glob 2)) b14_1 .nil) b14_2
def b15_4 : Ss3 := .cons (.raiseF 4 "ring" (.frz (.bin .add (.frz (.lst (.cons (.var 1) .nil))) (.frz (.sl (.var 3) .none (.some (.neg (.int 1)))))))) .nil
def b15_7 : Ss3 := .cons (.put (.var 4) (.var 2) (.bl true)) .nil
def b15_6 : Ss3 := .cons (.set 4 (.dsetd (.attr (.var 0) "parts") (.var 1) (.dic false))) b15_7
def b15_5 : Ss3 := .cons (.expr (.mcall (.var 0) "note" (.cons (.frz (.lst (.cons (.var 1) (.cons (.var 2) .nil)))) .nil))) b15_6
def b15_3 : Ss3 := .cons (.ifS (.cmp .isnot (.var 3) .non) b15_4 .nil) b15_5
def b15_2 : Ss3 := .cons (.set 3 (.call 3 (.cons (.attr (.var 0) "parts") (.cons (.var 2) (.cons (.frz (.lst (.cons (.var 1) .nil))) .nil))))) b15_3
def b15_1 : Ss3 := .cons (.expr (.call 12 (.cons (.var 2) .nil))) b15_2
def b15_0 : Ss3 := .cons (.expr (.call 12 (.cons (.var 1) .nil))) b15_1
def b16_3 : Ss3 := .cons (.set 3 (.tup (.cons (.int 1) (.cons (.int 1) .nil)))) .nil
def b16_5 : Ss3 := .cons (.raise_ 5) .nil
def b16_7 : Ss3 := .cons (.raise_ 5) .nil
def b16_10 : Ss3 := .cons (.put (.var 4) (.var 2) (.var 3)) .nil
def b16_9 : Ss3 := .cons (.set 4 (.dsetd (.attr (.var 0) "stands") (.var 1) (.dic false))) b16_10
def b16_8 : Ss3 := .cons (.expr (.mcall (.var 0) "note" (.cons (.frz (.lst (.cons (.var 1) (.cons (.var 2) .nil)))) .nil))) b16_9
def b16_6 : Ss3 := .cons (.ifS (.or (.cons (.not (.call 7 (.cons (.var 3) .nil))) (.cons (.not (.call 9 (.cons (.tup (.cons (.int 0) (.cons (.int 1) .nil))) (.cons (.var 3) .nil)))) .nil))) b16_7 .nil) b16_8
def b16_4 : Ss3 := .cons (.ifS (.or (.cons (.cmp .eq (.var 1) (.var 2)) (.cons (.cmp .in_ (.var 2) (.dget2 (.attr (.var 0) "stands") (.var 1) (.dic false))) .nil))) b16_5 .nil) b16_6
def b16_2 : Ss3 := .cons (.ifS (.cmp .is (.var 3) .non) b16_3 .nil) b16_4
def b16_1 : Ss3 := .cons (.expr (.call 12 (.cons (.var 2) .nil))) b16_2
def b16_0 : Ss3 := .cons (.expr (.call 12 (.cons (.var 1) .nil))) b16_1
def b17_2 : Ss3 := .cons (.put (.attr (.var 0) "bars") (.var 1) (.bl true)) .nil
def b17_1 : Ss3 := .cons (.expr (.mcall (.var 0) "note" (.cons (.frz (.lst (.cons (.var 1) .nil))) .nil))) b17_2
def b17_0 : Ss3 := .cons (.expr (.call 12 (.cons (.var 1) .nil))) b17_1
def b18_2 : Ss3 := .cons (.expr (.dpop1 (.attr (.var 0) "bars") (.var 1))) .nil
def b18_1 : Ss3 := .cons (.ifS (.cmp .in_ (.var 1) (.attr (.var 0) "bars")) b18_2 .nil) .nil
def b18_0 : Ss3 := .cons (.expr (.call 12 (.cons (.var 1) .nil))) b18_1
def b19_0 : Ss3 := .cons (.expr (.call 0 (.cons (.int 0) .nil))) .nil
def b20_0 : Ss3 := .cons (.expr (.call 0 (.cons (.int 1) .nil))) .nil
def b21_1 : Ss3 := .cons (.ret (.call 3 (.cons (.attr (.var 0) "parts") (.cons (.var 1) (.cons (.frz (.prim .list (.cons (.attr (.var 0) "bars") .nil))) .nil))))) .nil
def b21_0 : Ss3 := .cons (.expr (.call 12 (.cons (.var 1) .nil))) b21_1
def b22_3 : Ss3 := .cons (.ret (.tup (.cons (.var 2) (.cons (.var 3) .nil)))) .nil
def b22_2 : Ss3 := .cons (.ifS (.cmp .is (.mcall (.var 0) "barred" (.cons (.ix (.var 2) (.neg (.int 1))) .nil)) .non) b22_3 .nil) .nil
def b22_4 : Ss3 := .cons (.raiseF 2 "good" (.var 1)) .nil
def b22_1 : Ss3 := .cons (.for_ (.tup [2, 3]) (.seq (.call 11 (.cons (.attr (.var 0) "stands") (.cons (.var 1) .nil)))) b22_2) b22_4
def b22_0 : Ss3 := .cons (.expr (.call 12 (.cons (.var 1) .nil))) b22_1
def b23_1 : Ss3 := .cons (.ret (.ix (.var 0) (.var 1))) .nil
def b23_2 : Ss3 := .cons (.ret (.int 0)) .nil
def b23_0 : Ss3 := .cons (.ifS (.cmp .lt (.var 1) (.prim .len (.cons (.var 0) .nil))) b23_1 .nil) b23_2
def b24_4 : Ss3 := .cons (.set 4 (.bin .add (.var 4) (.ix (.var 3) (.bin .mod (.bin .mod (.bin .mul (.bin .add (.var 2) (.int 1)) (.bin .add (.bin .add (.bin .mul (.var 5) (.var 5)) (.bin .mul (.int 3) (.var 5))) (.int 7))) (.int 1013)) (.int 26))))) .nil
def b24_13 : Ss3 := .cons (.expr (.meth .append (.var 10) (.cons (.frz (.bin .add (.frz (.bin .add (.frz (.bin .add (.frz (.sl (.var 9) .none (.some (.var 6)))) (.ix (.var 3) (.bin .fdiv (.var 5) (.int 26))))) (.var 11))) (.frz (.sl (.var 9) (.some (.var 6)) .none)))) .nil))) .nil
def b24_15 : Ss3 := .cons (.expr (.meth .append (.var 10) (.cons (.frz (.sl (.var 4) .none (.some (.bin .add (.var 5) (.int 1))))) .nil))) .nil
def b24_17 : Ss3 := .cons (.expr (.meth .append (.var 10) (.cons (.frz (.bin .add (.frz (.sl (.var 4) .none (.some (.bin .mod (.var 5) (.int 11))))) (.var 11))) .nil))) .nil
def b24_18 : Ss3 := .cons (.expr (.meth .append (.var 10) (.cons (.frz (.bin .add (.frz (.bin .add (.frz (.sl (.var 9) .none (.some (.var 6)))) (.var 11))) (.frz (.sl (.var 9) (.some (.var 6)) .none)))) .nil))) .nil
def b24_16 : Ss3 := .cons (.ifS (.cmp .eq (.bin .mod (.var 2) (.int 3)) (.int 2)) b24_17 b24_18) .nil
def b24_14 : Ss3 := .cons (.ifS (.and (.cons (.cmp .eq (.bin .mod (.var 2) (.int 3)) (.int 1)) (.cons (.cmp .le (.var 1) (.int 12)) .nil))) b24_15 b24_16) .nil
def b24_12 : Ss3 := .cons (.ifS (.cmp .gt (.var 1) (.int 26)) b24_13 b24_14) .nil
def b24_11 : Ss3 := .cons (.set 11 (.ix (.var 3) (.bin .mod (.bin .add (.bin .fdiv (.var 2) (.int 7)) (.bin .mul (.var 5) (.var 8))) (.int 26)))) b24_12
def b24_19 : Ss3 := .cons (.ret (.frz (.var 10))) .nil
def b24_10 : Ss3 := .cons (.fz 10 (.for_ (.name 5) (.rng1 (.var 1)) b24_11)) b24_19
def b24_9 : Ss3 := .cons (.set 10 (.lst .nil)) b24_10
def b24_8 : Ss3 := .cons (.set 9 (.frz (.sl (.var 4) .none (.some (.var 7))))) b24_9
def b24_7 : Ss3 := .cons (.set 8 (.ix (.frz (.lst (.cons (.int 1) (.cons (.int 3) (.cons (.int 5) (.cons (.int 7) (.cons (.int 9) (.cons (.int 11) (.cons (.int 15) (.cons (.int 17) .nil)))))))))) (.bin .mod (.bin .fdiv (.var 2) (.int 500)) (.int 8)))) b24_8
def b24_6 : Ss3 := .cons (.set 7 (.bin .mod (.bin .fdiv (.var 2) (.int 40)) (.int 11))) b24_7
def b24_5 : Ss3 := .cons (.set 6 (.bin .mod (.bin .fdiv (.var 2) (.int 3)) (.int 11))) b24_6
def b24_3 : Ss3 := .cons (.for_ (.name 5) (.rng1 (.int 12)) b24_4) b24_5
def b24_2 : Ss3 := .cons (.set 4 (.str "")) b24_3
def b24_1 : Ss3 := .cons (.set 3 (.str "abcdefghijklmnopqrstuvwxyz")) b24_2
def b24_0 : Ss3 := .cons (.set 2 (.bin .mod (.var 0) (.int 1000003))) b24_1
def b25_1 : Ss3 := .cons (.par 0 1 (.var 1) (.bin .mod (.var 0) (.var 1))) .nil
def b25_2 : Ss3 := .cons (.ret (.prim .abs (.cons (.var 0) .nil))) .nil
def b25_0 : Ss3 := .cons (.while_ (.cmp .ne (.var 1) (.int 0)) b25_1) b25_2
def b26_1 : Ss3 := .cons (.ret (.tup (.cons (.bin .fdiv (.var 0) (.var 2)) (.cons (.bin .fdiv (.var 1) (.var 2)) .nil)))) .nil
def b26_0 : Ss3 := .cons (.set 2 (.call 25 (.cons (.var 0) (.cons (.var 1) .nil)))) b26_1
def b27_1 : Ss3 := .cons (.ret (.call 26 (.cons (.bin .add (.int 1) (.var 1)) (.cons (.bin .add (.int 1) (.bin .mod (.bin .mul (.var 1) (.int 31)) (.int 997))) .nil)))) .nil
def b27_0 : Ss3 := .cons (.set 1 (.bin .mod (.bin .mul (.bin .mod (.var 0) (.int 1000003)) (.int 48271)) (.int 999983))) b27_1
def b28_6 : Ss3 := .cons (.put (.var 3) (.var 7) (.bl true)) .nil
def b28_5 : Ss3 := .cons (.ifS (.cmp .in_ (.var 6) (.var 3)) b28_6 .nil) .nil
def b28_7 : Ss3 := .cons (.set 4 (.cmp .gt (.prim .len (.cons (.var 3) .nil)) (.var 5))) .nil
def b28_4 : Ss3 := .cons (.forK (.tup [6, 7]) (.keys (.var 0)) b28_5) b28_7
def b28_3 : Ss3 := .cons (.set 5 (.prim .len (.cons (.var 3) .nil))) b28_4
def b28_8 : Ss3 := .cons (.ret (.cmp .eq (.frz (.lcK (.var 8) (.name 8) (.keys (.var 1)) (.some (.cmp .in_ (.var 8) (.var 3))) [8])) (.frz (.lst .nil)))) .nil
def b28_2 : Ss3 := .cons (.while_ (.var 4) b28_3) b28_8
def b28_1 : Ss3 := .cons (.set 4 (.bl true)) b28_2
def b28_0 : Ss3 := .cons (.set 3 (.dic1 (.var 2) (.bl true))) b28_1
def b29_7 : Ss3 := .cons (.put (.var 2) (.var 5) (.var 6)) .nil
def b29_6 : Ss3 := .cons (.ifS (.or (.cons (.cmp .is (.var 7) .non) (.cons (.cmp .lt (.tup (.cons (.prim .len (.cons (.var 6) .nil)) (.cons (.var 6) .nil))) (.tup (.cons (.prim .len (.cons (.var 7) .nil)) (.cons (.var 7) .nil)))) .nil))) b29_7 .nil) .nil
def b29_5 : Ss3 := .cons (.set 7 (.dget1 (.var 2) (.var 5))) b29_6
def b29_4 : Ss3 := .cons (.set 6 (.frz (.bin .add (.ix (.var 2) (.var 4)) (.frz (.lst (.cons (.var 5) .nil)))))) b29_5
def b29_3 : Ss3 := .cons (.ifS (.cmp .in_ (.var 4) (.var 2)) b29_4 .nil) .nil
def b29_2 : Ss3 := .cons (.forK (.tup [4, 5]) (.keys (.var 0)) b29_3) .nil
def b29_8 : Ss3 := .cons (.ret (.var 2)) .nil
def b29_1 : Ss3 := .cons (.for_ (.name 3) (.rng1 (.int 6)) b29_2) b29_8
def b29_0 : Ss3 := .cons (.set 2 (.dic1 (.var 1) (.frz (.lst (.cons (.var 1) .nil))))) b29_1
def b30_3 : Ss3 := .cons (.ret .non) .nil
def b30_10 : Ss3 := .cons (.set 8 (.bin .mul (.var 8) (.ix (.var 10) (.int 1)))) .nil
def b30_9 : Ss3 := .cons (.set 7 (.bin .mul (.var 7) (.ix (.var 10) (.int 0)))) b30_10
def b30_8 : Ss3 := .cons (.set 10 (.ix (.var 1) (.tup (.cons (.ix (.var 6) (.var 9)) (.cons (.ix (.var 6) (.bin .add (.var 9) (.int 1))) .nil))))) b30_9
def b30_11 : Ss3 := .cons (.ret (.tup (.cons (.var 6) (.cons (.call 26 (.cons (.var 7) (.cons (.var 8) .nil))) .nil)))) .nil
def b30_7 : Ss3 := .cons (.for_ (.name 9) (.rng1 (.bin .sub (.prim .len (.cons (.var 6) .nil)) (.int 1))) b30_8) b30_11
def b30_6 : Ss3 := .cons (.set 8 (.int 1)) b30_7
def b30_5 : Ss3 := .cons (.set 7 (.int 1)) b30_6
def b30_4 : Ss3 := .cons (.set 6 (.ix (.prim .min (.cons (.var 5) .nil)) (.int 1))) b30_5
def b30_2 : Ss3 := .cons (.ifS (.cmp .eq (.var 5) (.frz (.lst .nil))) b30_3 .nil) b30_4
def b30_1 : Ss3 := .cons (.set 5 (.lcK (.tup (.cons (.prim .len (.cons (.ix (.var 4) (.var 11)) .nil)) (.cons (.ix (.var 4) (.var 11)) .nil))) (.name 11) (.keys (.var 4)) (.some (.call 28 (.cons (.var 0) (.cons (.var 2) (.cons (.var 11) .nil))))) [11])) b30_2
def b30_0 : Ss3 := .cons (.set 4 (.call 29 (.cons (.var 1) (.cons (.var 3) .nil)))) b30_1
def b31_1 : Ss3 := .cons (.set 2 (.mcall (.var 0) "stand_in" (.cons (.var 1) .nil))) .nil
def b31_3 : Ss3 := .cons (.ret .non) .nil
def b31_4 : Ss3 := .cons (.ret (.tup (.cons (.int 1) (.cons (.int 2) .nil)))) .nil
def b31_2 : Ss3 := .cons (.ifS (.and (.cons (.hcall 37 (.cons (.var 3) .nil)) (.cons (.isi (.xattr 3 "good") "str") (.cons (.cmp .eq (.xattr 3 "good") (.var 1)) .nil)))) b31_3 .nil) b31_4
def b31_5 : Ss3 := .cons (.ret (.var 2)) .nil
def b31_0 : Ss3 := .cons (.try_ b31_1 "NoStandIn" [false, false, true, false, false, false] (some 3) b31_2 .nil) b31_5
def b32_3 : Ss3 := .cons (.ret (.cmp .is (.var 5) .non)) .nil
def b32_5 : Ss3 := .cons (.ret (.bl false)) .nil
def b32_7 : Ss3 := .cons (.ret (.bl false)) .nil
def b32_8 : Ss3 := .cons (.ret (.cmp .eq (.var 5) (.var 6))) .nil
def b32_6 : Ss3 := .cons (.ifS (.or (.cons (.not (.isi (.ix (.var 5) (.int 1)) "tuple")) (.cons (.cmp .ne (.frz (.lc (.var 7) (.name 7) (.seq (.ix (.var 5) (.int 1))) (.some (.or (.cons (.not (.isi (.var 7) "int")) (.cons (.isi (.var 7) "bool") .nil)))) [7])) (.frz (.lst .nil))) .nil))) b32_7 .nil) b32_8
def b32_4 : Ss3 := .cons (.ifS (.or (.cons (.not (.isi (.var 5) "tuple")) (.cons (.cmp .ne (.prim .len (.cons (.var 5) .nil)) (.int 2)) (.cons (.not (.isi (.ix (.var 5) (.int 0)) "list")) .nil)))) b32_5 .nil) b32_6
def b32_2 : Ss3 := .cons (.ifS (.cmp .is (.var 6) .non) b32_3 .nil) b32_4
def b32_1 : Ss3 := .cons (.set 6 (.call 30 (.cons (.var 1) (.cons (.var 2) (.cons (.var 3) (.cons (.var 4) .nil)))))) b32_2
def b32_0 : Ss3 := .cons (.set 5 (.call 31 (.cons (.var 0) (.cons (.var 4) .nil)))) b32_1
def b33_2 : Ss3 := .cons (.ret (.cmp .is (.var 4) .non)) .nil
def b33_4 : Ss3 := .cons (.ret (.bl false)) .nil
def b33_7 : Ss3 := .cons (.ret (.bl false)) .nil
def b33_6 : Ss3 := .cons (.ifS (.cmp .notin (.tup (.cons (.ix (.var 4) (.var 5)) (.cons (.ix (.var 4) (.bin .add (.var 5) (.int 1))) .nil))) (.var 1)) b33_7 .nil) .nil
def b33_8 : Ss3 := .cons (.ret (.bl true)) .nil
def b33_5 : Ss3 := .cons (.for_ (.name 5) (.rng1 (.bin .sub (.prim .len (.cons (.var 4) .nil)) (.int 1))) b33_6) b33_8
def b33_3 : Ss3 := .cons (.ifS (.or (.cons (.not (.isi (.var 4) "list")) (.cons (.cmp .eq (.var 4) (.frz (.lst .nil))) (.cons (.cmp .ne (.ix (.var 4) (.int 0)) (.var 3)) (.cons (.cmp .notin (.ix (.var 4) (.neg (.int 1))) (.var 2)) .nil))))) b33_4 .nil) b33_5
def b33_1 : Ss3 := .cons (.ifS (.call 28 (.cons (.var 1) (.cons (.var 2) (.cons (.var 3) .nil)))) b33_2 .nil) b33_3
def b33_0 : Ss3 := .cons (.set 4 (.mcall (.var 0) "barred" (.cons (.var 3) .nil))) b33_1
def b34_1 : Ss3 := .cons (.ret (.bl false)) .nil
def b34_2 : Ss3 := .cons (.ret (.call 32 (.cons (.var 0) (.cons (.var 1) (.cons (.var 2) (.cons (.var 3) (.cons (.var 4) .nil))))))) .nil
def b34_0 : Ss3 := .cons (.ifS (.not (.call 33 (.cons (.var 0) (.cons (.var 1) (.cons (.var 3) (.cons (.var 4) .nil)))))) b34_1 .nil) b34_2
def b35_7 : Ss3 := .cons (.put (.var 1) (.tup (.cons (.var 9) (.cons (.var 10) .nil))) (.bl true)) .nil
def b35_6 : Ss3 := .cons (.expr (.mcall (.var 0) "part" (.cons (.var 9) (.cons (.var 10) .nil)))) b35_7
def b35_11 : Ss3 := .cons (.put (.var 2) (.tup (.cons (.ix (.var 4) (.var 7)) (.cons (.ix (.var 4) (.var 8)) .nil))) (.var 11)) .nil
def b35_10 : Ss3 := .cons (.expr (.mcall (.var 0) "stand" (.cons (.ix (.var 4) (.var 7)) (.cons (.ix (.var 4) (.var 8)) (.cons (.var 11) .nil))))) b35_11
def b35_9 : Ss3 := .cons (.set 11 (.call 27 (.cons (.bin .fdiv (.var 5) (.int 8)) .nil))) b35_10
def b35_14 : Ss3 := .cons (.put (.var 3) (.ix (.var 4) (.var 7)) (.bl true)) .nil
def b35_13 : Ss3 := .cons (.expr (.mcall (.var 0) "bar" (.cons (.ix (.var 4) (.var 7)) .nil))) b35_14
def b35_17 : Ss3 := .cons (.expr (.dpop2 (.var 3) (.ix (.var 4) (.var 7)) .non)) .nil
def b35_16 : Ss3 := .cons (.expr (.mcall (.var 0) "allow" (.cons (.ix (.var 4) (.var 7)) .nil))) b35_17
def b35_15 : Ss3 := .cons (.ifS (.cmp .eq (.var 6) (.int 7)) b35_16 .nil) .nil
def b35_12 : Ss3 := .cons (.ifS (.or (.cons (.cmp .eq (.var 6) (.int 5)) (.cons (.cmp .eq (.var 6) (.int 6)) .nil))) b35_13 b35_15) .nil
def b35_8 : Ss3 := .cons (.ifS (.and (.cons (.cmp .lt (.var 6) (.int 5)) (.cons (.cmp .ne (.var 7) (.var 8)) (.cons (.cmp .notin (.tup (.cons (.ix (.var 4) (.var 7)) (.cons (.ix (.var 4) (.var 8)) .nil))) (.var 2)) .nil)))) b35_9 b35_12) .nil
def b35_5 : Ss3 := .cons (.ifS (.and (.cons (.cmp .lt (.var 6) (.int 2)) (.cons (.cmp .ne (.var 7) (.var 8)) .nil))) b35_6 b35_8) .nil
def b35_4 : Ss3 := .cons (.set 10 (.ix (.var 4) (.prim .max (.cons (.var 7) (.cons (.var 8) .nil))))) b35_5
def b35_3 : Ss3 := .cons (.set 9 (.ix (.var 4) (.prim .min (.cons (.var 7) (.cons (.var 8) .nil))))) b35_4
def b35_2 : Ss3 := .cons (.set 8 (.bin .mod (.bin .fdiv (.bin .fdiv (.var 5) (.int 8)) (.prim .len (.cons (.var 4) .nil))) (.prim .len (.cons (.var 4) .nil)))) b35_3
def b35_1 : Ss3 := .cons (.set 7 (.bin .mod (.bin .fdiv (.var 5) (.int 8)) (.prim .len (.cons (.var 4) .nil)))) b35_2
def b35_0 : Ss3 := .cons (.set 6 (.bin .mod (.var 5) (.int 8))) b35_1
def b36_9 : Ss3 := .cons (.ret (.bl false)) .nil
def b36_8 : Ss3 := .cons (.ifS (.and (.cons (.cmp .eq (.bin .mod (.var 6) (.int 4)) (.int 3)) (.cons (.not (.call 34 (.cons (.var 2) (.cons (.var 3) (.cons (.var 4) (.cons (.var 5) (.cons (.var 8) .nil))))))) .nil))) b36_9 .nil) .nil
def b36_7 : Ss3 := .cons (.set 8 (.ix (.var 1) (.bin .mod (.bin .fdiv (.var 7) (.int 3)) (.prim .len (.cons (.var 1) .nil))))) b36_8
def b36_6 : Ss3 := .cons (.expr (.call 35 (.cons (.var 2) (.cons (.var 3) (.cons (.var 4) (.cons (.var 5) (.cons (.var 1) (.cons (.var 7) .nil)))))))) b36_7
def b36_12 : Ss3 := .cons (.ret (.bl false)) .nil
def b36_11 : Ss3 := .cons (.ifS (.not (.call 34 (.cons (.var 2) (.cons (.var 3) (.cons (.var 4) (.cons (.var 5) (.cons (.var 8) .nil))))))) b36_12 .nil) .nil
def b36_19 : Ss3 := .cons (.ret (.bl false)) .nil
def b36_18 : Ss3 := .cons (.ifS (.not (.call 34 (.cons (.var 2) (.cons (.var 3) (.cons (.var 4) (.cons (.var 5) (.cons (.var 8) .nil))))))) b36_19 .nil) .nil
def b36_17 : Ss3 := .cons (.expr (.dpop1 (.var 5) (.var 9))) b36_18
def b36_16 : Ss3 := .cons (.expr (.mcall (.var 2) "allow" (.cons (.var 9) .nil))) b36_17
def b36_15 : Ss3 := .cons (.ifS (.cmp .is (.call 30 (.cons (.var 3) (.cons (.var 4) (.cons (.var 5) (.cons (.var 8) .nil))))) .non) b36_16 .nil) .nil
def b36_20 : Ss3 := .cons (.ret (.cmp .isnot (.call 30 (.cons (.var 3) (.cons (.var 4) (.cons (.var 5) (.cons (.var 8) .nil))))) .non)) .nil
def b36_14 : Ss3 := .cons (.for_ (.name 9) (.seq (.frz (.prim .sorted (.cons (.var 5) .nil)))) b36_15) b36_20
def b36_13 : Ss3 := .cons (.set 8 (.ix (.var 1) (.bin .mod (.bin .fdiv (.call 23 (.cons (.var 0) (.cons (.int 0) .nil))) (.int 5)) (.prim .len (.cons (.var 1) .nil))))) b36_14
def b36_10 : Ss3 := .cons (.for_ (.name 8) (.seq (.var 1)) b36_11) b36_13
def b36_5 : Ss3 := .cons (.for_ (.tup [6, 7]) (.enum (.frz (.sl (.var 0) (.some (.int 2)) (.some (.int 44))))) b36_6) b36_10
def b36_4 : Ss3 := .cons (.set 5 (.dic false)) b36_5
def b36_3 : Ss3 := .cons (.set 4 (.dic true)) b36_4
def b36_2 : Ss3 := .cons (.set 3 (.dic true)) b36_3
def b36_1 : Ss3 := .cons (.set 2 (.new 0 13 .nil)) b36_2
def b36_0 : Ss3 := .cons (.set 1 (.call 24 (.cons (.call 23 (.cons (.var 0) (.cons (.int 1) .nil))) (.cons (.bin .add (.int 2) (.bin .mod (.call 23 (.cons (.var 0) (.cons (.int 0) .nil))) (.int 5))) .nil)))) b36_1
def b37_1 : Ss3 := .cons (.ret (.bl false)) .nil
def b37_2 : Ss3 := .cons (.ret (.and (.cons (.isx 0 "StoveError" [true, true, true, true, true, true]) (.cons (.not (.isxs 0 [("NoStand", [false, false, false, false, false, true]), ("NoStep", [false, false, false, false, false, false]), ("TooFew", [false, false, false, false, false, false]), ("TooMany", [false, false, false, true, false, false]), ("Twice", [false, false, false, false, false, false])])) .nil)))) .nil
def b37_0 : Ss3 := .cons (.ifS (.isxs 0 [("EmptyHeap", [false, false, false, false, false, false]), ("InRing", [false, false, false, false, true, false]), ("NoAmount", [false, false, false, false, false, false]), ("NoDish", [false, false, false, false, false, false]), ("NoName", [false, true, false, false, false, false]), ("NoNet", [false, false, false, false, false, false]), ("NoNumber", [true, false, false, false, false, false]), ("NoPack", [false, false, false, false, false, false]), ("NoPlan", [false, false, false, false, false, false]), ("NoRow", [false, false, false, false, false, false])]) b37_1 .nil) b37_2
def d0 : FD3 := { name := "_wall", glob := true, params := ["k"], dflt := [], slots := ["k"], body := b0_0 }
def d1 : FD3 := { name := "is_name", glob := true, params := ["thing"], dflt := [], slots := ["thing", "sign"], body := b1_0 }
def d2 : FD3 := { name := "way_to", glob := true, params := ["came", "name"], dflt := [], slots := ["came", "name", "way"], body := b2_0 }
def d3 : FD3 := { name := "chain_down", glob := true, params := ["parts", "good", "goals"], dflt := [], slots := ["parts", "good", "goals", "came", "row", "at", "here", "name"], body := b3_0 }
def d4 : FD3 := { name := "is_whole", glob := true, params := ["thing"], dflt := [], slots := ["thing"], body := b4_0 }
def d5 : FD3 := { name := "divisor", glob := true, params := ["one", "other"], dflt := [], slots := ["one", "other"], body := b5_0 }
def d6 : FD3 := { name := "fraction", glob := true, params := ["top", "bottom"], dflt := [(.int 1)], slots := ["top", "bottom", "share"], body := b6_0 }
def d7 : FD3 := { name := "is_fraction", glob := true, params := ["thing"], dflt := [], slots := ["thing"], body := b7_0 }
def d8 : FD3 := { name := "product", glob := true, params := ["one", "other"], dflt := [], slots := ["one", "other"], body := b8_0 }
def d9 : FD3 := { name := "is_less", glob := true, params := ["one", "other"], dflt := [], slots := ["one", "other"], body := b9_0 }
def d10 : FD3 := { name := "next_ones", glob := true, params := ["stands", "pairs", "seen"], dflt := [], slots := ["stands", "pairs", "seen", "found", "chain", "ratio", "here", "name"], body := b10_0 }
def d11 : FD3 := { name := "ways_out", glob := true, params := ["stands", "good"], dflt := [], slots := ["stands", "good", "seen", "found", "pairs"], body := b11_0 }
def d12 : FD3 := { name := "need_name", glob := true, params := ["thing"], dflt := [], slots := ["thing"], body := b12_0 }
def d13 : FD3 := { name := "__init__", glob := false, params := ["self"], dflt := [], slots := ["self"], body := b13_0 }
def d14 : FD3 := { name := "note", glob := false, params := ["self", "names"], dflt := [], slots := ["self", "names", "name"], body := b14_0 }
def d15 : FD3 := { name := "part", glob := false, params := ["self", "good", "other"], dflt := [], slots := ["self", "good", "other", "chain", "here"], body := b15_0 }
def d16 : FD3 := { name := "stand", glob := false, params := ["self", "good", "other", "ratio"], dflt := [.non], slots := ["self", "good", "other", "ratio", "here"], body := b16_0 }
def d17 : FD3 := { name := "bar", glob := false, params := ["self", "good"], dflt := [], slots := ["self", "good"], body := b17_0 }
def d18 : FD3 := { name := "allow", glob := false, params := ["self", "good"], dflt := [], slots := ["self", "good"], body := b18_0 }
def d19 : FD3 := { name := "known", glob := false, params := ["self"], dflt := [], slots := ["self"], body := b19_0 }
def d20 : FD3 := { name := "held", glob := false, params := ["self", "good"], dflt := [], slots := ["self", "good"], body := b20_0 }
def d21 : FD3 := { name := "barred", glob := false, params := ["self", "good"], dflt := [], slots := ["self", "good"], body := b21_0 }
def d22 : FD3 := { name := "stand_in", glob := false, params := ["self", "good"], dflt := [], slots := ["self", "good", "chain", "ratio"], body := b22_0 }
def d23 : FD3 := { name := "_law_cell_at", glob := true, params := ["_law_script", "_law_k"], dflt := [], slots := ["_law_script", "_law_k"], body := b23_0 }
def d24 : FD3 := { name := "_law_names", glob := true, params := ["_law_number", "_law_many"], dflt := [], slots := ["_law_number", "_law_many", "_law_cell", "_law_letters", "_law_base", "_law_k", "_law_at", "_law_size", "_law_step", "_law_core", "_law_names_here", "_law_sign"], body := b24_0 }
def d25 : FD3 := { name := "_law_divisor_of", glob := true, params := ["_law_one", "_law_other"], dflt := [], slots := ["_law_one", "_law_other"], body := b25_0 }
def d26 : FD3 := { name := "_law_lowest", glob := true, params := ["_law_top", "_law_bottom"], dflt := [], slots := ["_law_top", "_law_bottom", "_law_by"], body := b26_0 }
def d27 : FD3 := { name := "_law_ratio", glob := true, params := ["_law_cell"], dflt := [], slots := ["_law_cell", "_law_number"], body := b27_0 }
def d28 : FD3 := { name := "_law_free", glob := true, params := ["_law_pairs", "_law_bars", "_law_good"], dflt := [], slots := ["_law_pairs", "_law_bars", "_law_good", "_law_known", "_law_grows", "_law_before", "_law_one", "_law_other", "_law_name"], body := b28_0 }
def d29 : FD3 := { name := "_law_least", glob := true, params := ["_law_stands", "_law_good"], dflt := [], slots := ["_law_stands", "_law_good", "_law_least_here", "_law_k", "_law_one", "_law_other", "_law_chain", "_law_kept"], body := b29_0 }
def d30 : FD3 := { name := "_law_due", glob := true, params := ["_law_pairs", "_law_stands", "_law_bars", "_law_good"], dflt := [], slots := ["_law_pairs", "_law_stands", "_law_bars", "_law_good", "_law_least_here", "_law_free_here", "_law_chain", "_law_top", "_law_bottom", "_law_k", "_law_ratio_here", "_law_name"], body := b30_0 }
def d31 : FD3 := { name := "_law_asked", glob := true, params := ["_law_larder", "_law_good"], dflt := [], slots := ["_law_larder", "_law_good", "_law_found", "_law_e"], body := b31_0 }
def d32 : FD3 := { name := "_law_given_so", glob := true, params := ["_law_larder", "_law_pairs", "_law_stands", "_law_bars", "_law_good"], dflt := [], slots := ["_law_larder", "_law_pairs", "_law_stands", "_law_bars", "_law_good", "_law_found", "_law_due_here", "_law_x"], body := b32_0 }
def d33 : FD3 := { name := "_law_barred_so", glob := true, params := ["_law_larder", "_law_pairs", "_law_bars", "_law_good"], dflt := [], slots := ["_law_larder", "_law_pairs", "_law_bars", "_law_good", "_law_found", "_law_k"], body := b33_0 }
def d34 : FD3 := { name := "_law_right", glob := true, params := ["_law_larder", "_law_pairs", "_law_stands", "_law_bars", "_law_good"], dflt := [], slots := ["_law_larder", "_law_pairs", "_law_stands", "_law_bars", "_law_good"], body := b34_0 }
def d35 : FD3 := { name := "_law_deed", glob := true, params := ["_law_larder", "_law_pairs", "_law_stands", "_law_bars", "_law_names_here", "_law_cell"], dflt := [], slots := ["_law_larder", "_law_pairs", "_law_stands", "_law_bars", "_law_names_here", "_law_cell", "_law_way", "_law_at", "_law_to", "_law_one", "_law_other", "_law_ratio_here"], body := b35_0 }
def d36 : FD3 := { name := "law", glob := true, params := ["_law_script"], dflt := [], slots := ["_law_script", "_law_names_here", "_law_larder", "_law_pairs", "_law_stands", "_law_bars", "_law_k", "_law_cell", "_law_good", "_law_name"], body := b36_0 }
def d37 : FD3 := { name := "_law_alone", glob := true, params := ["_law_e"], dflt := [], slots := ["_law_e"], body := b37_0, hot := true }
def P : List FD3 := [d0, d1, d2, d3, d4, d5, d6, d7, d8, d9, d10, d11, d12, d13, d14, d15, d16, d17, d18, d19, d20, d21, d22, d23, d24, d25, d26, d27, d28, d29, d30, d31, d32, d33, d34, d35, d36, d37]
def gls : List Str := ["LETTERS", "LONGEST", "ROOM"]
def fl : List Str := ["parts", "stands", "bars", "names"]
def ocs : List OC3 := [⟨"Larder", 13, [("note", 14), ("part", 15), ("stand", 16), ("bar", 17), ("allow", 18), ("known", 19), ("held", 20), ("barred", 21), ("stand_in", 22)]⟩]
def gl : Gs := ⟨fun i => ([(.str "abcdefghijklmnopqrstuvwxyz"), (.int 12), (.int 80)] : List W).getD i .non, none, ocs⟩
theorem glv_0 : gl.v 0 = (.str "abcdefghijklmnopqrstuvwxyz") := rfl
theorem glv_1 : gl.v 1 = (.int 12) := rfl
theorem glv_2 : gl.v 2 = (.int 80) := rfl
theorem mn_0_note : mnum gl.ocs 0 "note" = some 14 := rfl
theorem mn_0_part : mnum gl.ocs 0 "part" = some 15 := rfl
theorem mn_0_stand : mnum gl.ocs 0 "stand" = some 16 := rfl
theorem mn_0_bar : mnum gl.ocs 0 "bar" = some 17 := rfl
theorem mn_0_allow : mnum gl.ocs 0 "allow" = some 18 := rfl
theorem mn_0_known : mnum gl.ocs 0 "known" = some 19 := rfl
theorem mn_0_held : mnum gl.ocs 0 "held" = some 20 := rfl
theorem mn_0_barred : mnum gl.ocs 0 "barred" = some 21 := rfl
theorem mn_0_stand_in : mnum gl.ocs 0 "stand_in" = some 22 := rfl
def xs : List Str := ["NoNumber", "NoName", "NoStandIn", "TooMany", "InRing", "NoStand"]
def xf : List (Option Str) := [none, none, some "good", none, some "ring", none]
def xfl : List Str := ["good", "ring"]
def cd : List CsD := [("NoStandIn", none, [false, false, true, false, false, false]), ("EmptyHeap", none, [false, false, false, false, false, false]), ("InRing", none, [false, false, false, false, true, false]), ("NoAmount", none, [false, false, false, false, false, false]), ("NoDish", none, [false, false, false, false, false, false]), ("NoName", none, [false, true, false, false, false, false]), ("NoNet", none, [false, false, false, false, false, false]), ("NoNumber", none, [true, false, false, false, false, false]), ("NoPack", none, [false, false, false, false, false, false]), ("NoPlan", none, [false, false, false, false, false, false]), ("NoRow", none, [false, false, false, false, false, false]), ("StoveError", none, [true, true, true, true, true, true]), ("NoStand", none, [false, false, false, false, false, true]), ("NoStep", none, [false, false, false, false, false, false]), ("TooFew", none, [false, false, false, false, false, false]), ("TooMany", none, [false, false, false, true, false, false]), ("Twice", none, [false, false, false, false, false, false])]
def ics : List (Str × List Bool) := []
def cs : List (Str × List Bool) := cd.map fun d => (d.1, d.2.2)
theorem u0 {n : Nat} {w0 : W} {g : G} {x : XK3} {q : VK3} (h : svs (callF P gl n) gl b0_0 (DD g x q) [some w0] g) : callF P gl (n + 1) 0 [w0] g x q := ⟨rfl, h⟩
theorem u1 {n : Nat} {w0 : W} {g : G} {x : XK3} {q : VK3} (h : svs (callF P gl n) gl b1_0 (DD g x q) [some w0, none] g) : callF P gl (n + 1) 1 [w0] g x q := ⟨rfl, h⟩
theorem u2 {n : Nat} {w0 w1 : W} {g : G} {x : XK3} {q : VK3} (h : svs (callF P gl n) gl b2_0 (DD g x q) [some w0, some w1, none] g) : callF P gl (n + 1) 2 [w0, w1] g x q := ⟨rfl, h⟩
theorem u3 {n : Nat} {w0 w1 w2 : W} {g : G} {x : XK3} {q : VK3} (h : svs (callF P gl n) gl b3_0 (DD g x q) [some w0, some w1, some w2, none, none, none, none, none] g) : callF P gl (n + 1) 3 [w0, w1, w2] g x q := ⟨rfl, h⟩
theorem u4 {n : Nat} {w0 : W} {g : G} {x : XK3} {q : VK3} (h : svs (callF P gl n) gl b4_0 (DD g x q) [some w0] g) : callF P gl (n + 1) 4 [w0] g x q := ⟨rfl, h⟩
theorem u5 {n : Nat} {w0 w1 : W} {g : G} {x : XK3} {q : VK3} (h : svs (callF P gl n) gl b5_0 (DD g x q) [some w0, some w1] g) : callF P gl (n + 1) 5 [w0, w1] g x q := ⟨rfl, h⟩
theorem u6 {n : Nat} {w0 w1 : W} {g : G} {x : XK3} {q : VK3} (h : svs (callF P gl n) gl b6_0 (DD g x q) [some w0, some w1, none] g) : callF P gl (n + 1) 6 [w0, w1] g x q := ⟨rfl, h⟩
theorem u7 {n : Nat} {w0 : W} {g : G} {x : XK3} {q : VK3} (h : svs (callF P gl n) gl b7_0 (DD g x q) [some w0] g) : callF P gl (n + 1) 7 [w0] g x q := ⟨rfl, h⟩
theorem u8 {n : Nat} {w0 w1 : W} {g : G} {x : XK3} {q : VK3} (h : svs (callF P gl n) gl b8_0 (DD g x q) [some w0, some w1] g) : callF P gl (n + 1) 8 [w0, w1] g x q := ⟨rfl, h⟩
theorem u9 {n : Nat} {w0 w1 : W} {g : G} {x : XK3} {q : VK3} (h : svs (callF P gl n) gl b9_0 (DD g x q) [some w0, some w1] g) : callF P gl (n + 1) 9 [w0, w1] g x q := ⟨rfl, h⟩
theorem u10 {n : Nat} {w0 w1 w2 : W} {g : G} {x : XK3} {q : VK3} (h : svs (callF P gl n) gl b10_0 (DD g x q) [some w0, some w1, some w2, none, none, none, none, none] g) : callF P gl (n + 1) 10 [w0, w1, w2] g x q := ⟨rfl, h⟩
theorem u11 {n : Nat} {w0 w1 : W} {g : G} {x : XK3} {q : VK3} (h : svs (callF P gl n) gl b11_0 (DD g x q) [some w0, some w1, none, none, none] g) : callF P gl (n + 1) 11 [w0, w1] g x q := ⟨rfl, h⟩
theorem u12 {n : Nat} {w0 : W} {g : G} {x : XK3} {q : VK3} (h : svs (callF P gl n) gl b12_0 (DD g x q) [some w0] g) : callF P gl (n + 1) 12 [w0] g x q := ⟨rfl, h⟩
theorem u13 {n : Nat} {w0 : W} {g : G} {x : XK3} {q : VK3} (h : svs (callF P gl n) gl b13_0 (DD g x q) [some w0] g) : callF P gl (n + 1) 13 [w0] g x q := ⟨rfl, h⟩
theorem u14 {n : Nat} {w0 w1 : W} {g : G} {x : XK3} {q : VK3} (h : svs (callF P gl n) gl b14_0 (DD g x q) [some w0, some w1, none] g) : callF P gl (n + 1) 14 [w0, w1] g x q := ⟨rfl, h⟩
theorem u15 {n : Nat} {w0 w1 w2 : W} {g : G} {x : XK3} {q : VK3} (h : svs (callF P gl n) gl b15_0 (DD g x q) [some w0, some w1, some w2, none, none] g) : callF P gl (n + 1) 15 [w0, w1, w2] g x q := ⟨rfl, h⟩
theorem u16 {n : Nat} {w0 w1 w2 w3 : W} {g : G} {x : XK3} {q : VK3} (h : svs (callF P gl n) gl b16_0 (DD g x q) [some w0, some w1, some w2, some w3, none] g) : callF P gl (n + 1) 16 [w0, w1, w2, w3] g x q := ⟨rfl, h⟩
theorem u17 {n : Nat} {w0 w1 : W} {g : G} {x : XK3} {q : VK3} (h : svs (callF P gl n) gl b17_0 (DD g x q) [some w0, some w1] g) : callF P gl (n + 1) 17 [w0, w1] g x q := ⟨rfl, h⟩
theorem u18 {n : Nat} {w0 w1 : W} {g : G} {x : XK3} {q : VK3} (h : svs (callF P gl n) gl b18_0 (DD g x q) [some w0, some w1] g) : callF P gl (n + 1) 18 [w0, w1] g x q := ⟨rfl, h⟩
theorem u21 {n : Nat} {w0 w1 : W} {g : G} {x : XK3} {q : VK3} (h : svs (callF P gl n) gl b21_0 (DD g x q) [some w0, some w1] g) : callF P gl (n + 1) 21 [w0, w1] g x q := ⟨rfl, h⟩
theorem u22 {n : Nat} {w0 w1 : W} {g : G} {x : XK3} {q : VK3} (h : svs (callF P gl n) gl b22_0 (DD g x q) [some w0, some w1, none, none] g) : callF P gl (n + 1) 22 [w0, w1] g x q := ⟨rfl, h⟩
theorem u23 {n : Nat} {w0 w1 : W} {g : G} {x : XK3} {q : VK3} (h : svs (callF P gl n) gl b23_0 (DD g x q) [some w0, some w1] g) : callF P gl (n + 1) 23 [w0, w1] g x q := ⟨rfl, h⟩
theorem u24 {n : Nat} {w0 w1 : W} {g : G} {x : XK3} {q : VK3} (h : svs (callF P gl n) gl b24_0 (DD g x q) [some w0, some w1, none, none, none, none, none, none, none, none, none, none] g) : callF P gl (n + 1) 24 [w0, w1] g x q := ⟨rfl, h⟩
theorem u25 {n : Nat} {w0 w1 : W} {g : G} {x : XK3} {q : VK3} (h : svs (callF P gl n) gl b25_0 (DD g x q) [some w0, some w1] g) : callF P gl (n + 1) 25 [w0, w1] g x q := ⟨rfl, h⟩
theorem u26 {n : Nat} {w0 w1 : W} {g : G} {x : XK3} {q : VK3} (h : svs (callF P gl n) gl b26_0 (DD g x q) [some w0, some w1, none] g) : callF P gl (n + 1) 26 [w0, w1] g x q := ⟨rfl, h⟩
theorem u27 {n : Nat} {w0 : W} {g : G} {x : XK3} {q : VK3} (h : svs (callF P gl n) gl b27_0 (DD g x q) [some w0, none] g) : callF P gl (n + 1) 27 [w0] g x q := ⟨rfl, h⟩
theorem u28 {n : Nat} {w0 w1 w2 : W} {g : G} {x : XK3} {q : VK3} (h : svs (callF P gl n) gl b28_0 (DD g x q) [some w0, some w1, some w2, none, none, none, none, none, none] g) : callF P gl (n + 1) 28 [w0, w1, w2] g x q := ⟨rfl, h⟩
theorem u29 {n : Nat} {w0 w1 : W} {g : G} {x : XK3} {q : VK3} (h : svs (callF P gl n) gl b29_0 (DD g x q) [some w0, some w1, none, none, none, none, none, none] g) : callF P gl (n + 1) 29 [w0, w1] g x q := ⟨rfl, h⟩
theorem u30 {n : Nat} {w0 w1 w2 w3 : W} {g : G} {x : XK3} {q : VK3} (h : svs (callF P gl n) gl b30_0 (DD g x q) [some w0, some w1, some w2, some w3, none, none, none, none, none, none, none, none] g) : callF P gl (n + 1) 30 [w0, w1, w2, w3] g x q := ⟨rfl, h⟩
theorem u31 {n : Nat} {w0 w1 : W} {g : G} {x : XK3} {q : VK3} (h : svs (callF P gl n) gl b31_0 (DD g x q) [some w0, some w1, none, none] g) : callF P gl (n + 1) 31 [w0, w1] g x q := ⟨rfl, h⟩
theorem u32 {n : Nat} {w0 w1 w2 w3 w4 : W} {g : G} {x : XK3} {q : VK3} (h : svs (callF P gl n) gl b32_0 (DD g x q) [some w0, some w1, some w2, some w3, some w4, none, none, none] g) : callF P gl (n + 1) 32 [w0, w1, w2, w3, w4] g x q := ⟨rfl, h⟩
theorem u33 {n : Nat} {w0 w1 w2 w3 : W} {g : G} {x : XK3} {q : VK3} (h : svs (callF P gl n) gl b33_0 (DD g x q) [some w0, some w1, some w2, some w3, none, none] g) : callF P gl (n + 1) 33 [w0, w1, w2, w3] g x q := ⟨rfl, h⟩
theorem u34 {n : Nat} {w0 w1 w2 w3 w4 : W} {g : G} {x : XK3} {q : VK3} (h : svs (callF P gl n) gl b34_0 (DD g x q) [some w0, some w1, some w2, some w3, some w4] g) : callF P gl (n + 1) 34 [w0, w1, w2, w3, w4] g x q := ⟨rfl, h⟩
theorem u35 {n : Nat} {w0 w1 w2 w3 w4 w5 : W} {g : G} {x : XK3} {q : VK3} (h : svs (callF P gl n) gl b35_0 (DD g x q) [some w0, some w1, some w2, some w3, some w4, some w5, none, none, none, none, none, none] g) : callF P gl (n + 1) 35 [w0, w1, w2, w3, w4, w5] g x q := ⟨rfl, h⟩
theorem u36 {n : Nat} {w0 : W} {g : G} {x : XK3} {q : VK3} (h : svs (callF P gl n) gl b36_0 (DD g x q) [some w0, none, none, none, none, none, none, none, none, none] g) : callF P gl (n + 1) 36 [w0] g x q := ⟨rfl, h⟩
theorem u37 {n : Nat} {w0 : W} {a0 : Addr} {c0 : Nat} {dd : Option Addr} {g : G} {x : XK3} {q : VK3} (h : svs (callF P gl n) ⟨gl.v, some (a0, c0, dd), gl.ocs⟩ b37_0 (DDh g q) [some w0] g) : callF P gl (n + 1) 37 [.exc a0 c0 dd, w0] g x q := ⟨rfl, h⟩
theorem sc0 : FnScope d0.slots d0.params (defScope (top 0)) := ⟨rfl, rfl, rfl, by decide +kernel, rfl, by decide +kernel, by decide +kernel⟩
theorem ch0 : chkSs d0.body (ckOf P gls xs cs ocs fl ics xf xfl d0 (defScope (top 0))) (defBody (top 0)) = true := by decide +kernel
theorem sc1 : FnScope d1.slots d1.params (defScope (top 22)) := ⟨rfl, rfl, rfl, by decide +kernel, rfl, by decide +kernel, by decide +kernel⟩
theorem ch1 : chkSs d1.body (ckOf P gls xs cs ocs fl ics xf xfl d1 (defScope (top 22))) (defBody (top 22)) = true := by decide +kernel
theorem sc2 : FnScope d2.slots d2.params (defScope (top 24)) := ⟨rfl, rfl, rfl, by decide +kernel, rfl, by decide +kernel, by decide +kernel⟩
theorem ch2 : chkSs d2.body (ckOf P gls xs cs ocs fl ics xf xfl d2 (defScope (top 24))) (defBody (top 24)) = true := by decide +kernel
theorem sc3 : FnScope d3.slots d3.params (defScope (top 25)) := ⟨rfl, rfl, rfl, by decide +kernel, rfl, by decide +kernel, by decide +kernel⟩
theorem ch3 : chkSs d3.body (ckOf P gls xs cs ocs fl ics xf xfl d3 (defScope (top 25))) (defBody (top 25)) = true := by decide +kernel
theorem sc4 : FnScope d4.slots d4.params (defScope (top 27)) := ⟨rfl, rfl, rfl, by decide +kernel, rfl, by decide +kernel, by decide +kernel⟩
theorem ch4 : chkSs d4.body (ckOf P gls xs cs ocs fl ics xf xfl d4 (defScope (top 27))) (defBody (top 27)) = true := by decide +kernel
theorem sc5 : FnScope d5.slots d5.params (defScope (top 28)) := ⟨rfl, rfl, rfl, by decide +kernel, rfl, by decide +kernel, by decide +kernel⟩
theorem ch5 : chkSs d5.body (ckOf P gls xs cs ocs fl ics xf xfl d5 (defScope (top 28))) (defBody (top 28)) = true := by decide +kernel
theorem sc6 : FnScope d6.slots d6.params (defScope (top 30)) := ⟨rfl, rfl, rfl, by decide +kernel, rfl, by decide +kernel, by decide +kernel⟩
theorem ch6 : chkSs d6.body (ckOf P gls xs cs ocs fl ics xf xfl d6 (defScope (top 30))) (defBody (top 30)) = true := by decide +kernel
theorem sc7 : FnScope d7.slots d7.params (defScope (top 31)) := ⟨rfl, rfl, rfl, by decide +kernel, rfl, by decide +kernel, by decide +kernel⟩
theorem ch7 : chkSs d7.body (ckOf P gls xs cs ocs fl ics xf xfl d7 (defScope (top 31))) (defBody (top 31)) = true := by decide +kernel
theorem sc8 : FnScope d8.slots d8.params (defScope (top 32)) := ⟨rfl, rfl, rfl, by decide +kernel, rfl, by decide +kernel, by decide +kernel⟩
theorem ch8 : chkSs d8.body (ckOf P gls xs cs ocs fl ics xf xfl d8 (defScope (top 32))) (defBody (top 32)) = true := by decide +kernel
theorem sc9 : FnScope d9.slots d9.params (defScope (top 33)) := ⟨rfl, rfl, rfl, by decide +kernel, rfl, by decide +kernel, by decide +kernel⟩
theorem ch9 : chkSs d9.body (ckOf P gls xs cs ocs fl ics xf xfl d9 (defScope (top 33))) (defBody (top 33)) = true := by decide +kernel
theorem sc10 : FnScope d10.slots d10.params (defScope (top 35)) := ⟨rfl, rfl, rfl, by decide +kernel, rfl, by decide +kernel, by decide +kernel⟩
theorem ch10 : chkSs d10.body (ckOf P gls xs cs ocs fl ics xf xfl d10 (defScope (top 35))) (defBody (top 35)) = true := by decide +kernel
theorem sc11 : FnScope d11.slots d11.params (defScope (top 36)) := ⟨rfl, rfl, rfl, by decide +kernel, rfl, by decide +kernel, by decide +kernel⟩
theorem ch11 : chkSs d11.body (ckOf P gls xs cs ocs fl ics xf xfl d11 (defScope (top 36))) (defBody (top 36)) = true := by decide +kernel
theorem sc12 : FnScope d12.slots d12.params (defScope (top 39)) := ⟨rfl, rfl, rfl, by decide +kernel, rfl, by decide +kernel, by decide +kernel⟩
theorem ch12 : chkSs d12.body (ckOf P gls xs cs ocs fl ics xf xfl d12 (defScope (top 39))) (defBody (top 39)) = true := by decide +kernel
theorem sc13 : FnScope d13.slots d13.params (defScope (topm 40 0)) := ⟨rfl, rfl, rfl, by decide +kernel, rfl, by decide +kernel, by decide +kernel⟩
theorem ch13 : chkSs d13.body (ckOf P gls xs cs ocs fl ics xf xfl d13 (defScope (topm 40 0))) (defBody (topm 40 0)) = true := by decide +kernel
theorem sc14 : FnScope d14.slots d14.params (defScope (topm 40 1)) := ⟨rfl, rfl, rfl, by decide +kernel, rfl, by decide +kernel, by decide +kernel⟩
theorem ch14 : chkSs d14.body (ckOf P gls xs cs ocs fl ics xf xfl d14 (defScope (topm 40 1))) (defBody (topm 40 1)) = true := by decide +kernel
theorem sc15 : FnScope d15.slots d15.params (defScope (topm 40 2)) := ⟨rfl, rfl, rfl, by decide +kernel, rfl, by decide +kernel, by decide +kernel⟩
theorem ch15 : chkSs d15.body (ckOf P gls xs cs ocs fl ics xf xfl d15 (defScope (topm 40 2))) (defBody (topm 40 2)) = true := by decide +kernel
theorem sc16 : FnScope d16.slots d16.params (defScope (topm 40 3)) := ⟨rfl, rfl, rfl, by decide +kernel, rfl, by decide +kernel, by decide +kernel⟩
theorem ch16 : chkSs d16.body (ckOf P gls xs cs ocs fl ics xf xfl d16 (defScope (topm 40 3))) (defBody (topm 40 3)) = true := by decide +kernel
theorem sc17 : FnScope d17.slots d17.params (defScope (topm 40 4)) := ⟨rfl, rfl, rfl, by decide +kernel, rfl, by decide +kernel, by decide +kernel⟩
theorem ch17 : chkSs d17.body (ckOf P gls xs cs ocs fl ics xf xfl d17 (defScope (topm 40 4))) (defBody (topm 40 4)) = true := by decide +kernel
theorem sc18 : FnScope d18.slots d18.params (defScope (topm 40 5)) := ⟨rfl, rfl, rfl, by decide +kernel, rfl, by decide +kernel, by decide +kernel⟩
theorem ch18 : chkSs d18.body (ckOf P gls xs cs ocs fl ics xf xfl d18 (defScope (topm 40 5))) (defBody (topm 40 5)) = true := by decide +kernel
theorem sc19 : FnScope d19.slots d19.params (defScope (topm 40 6)) := ⟨rfl, rfl, rfl, by decide +kernel, rfl, by decide +kernel, by decide +kernel⟩
theorem ch19 : chkSs d19.body (ckOf P gls xs cs ocs fl ics xf xfl d19 (defScope (topm 40 6))) (defBody (topm 40 6)) = true := by decide +kernel
theorem sc20 : FnScope d20.slots d20.params (defScope (topm 40 7)) := ⟨rfl, rfl, rfl, by decide +kernel, rfl, by decide +kernel, by decide +kernel⟩
theorem ch20 : chkSs d20.body (ckOf P gls xs cs ocs fl ics xf xfl d20 (defScope (topm 40 7))) (defBody (topm 40 7)) = true := by decide +kernel
theorem sc21 : FnScope d21.slots d21.params (defScope (topm 40 8)) := ⟨rfl, rfl, rfl, by decide +kernel, rfl, by decide +kernel, by decide +kernel⟩
theorem ch21 : chkSs d21.body (ckOf P gls xs cs ocs fl ics xf xfl d21 (defScope (topm 40 8))) (defBody (topm 40 8)) = true := by decide +kernel
theorem sc22 : FnScope d22.slots d22.params (defScope (topm 40 9)) := ⟨rfl, rfl, rfl, by decide +kernel, rfl, by decide +kernel, by decide +kernel⟩
theorem ch22 : chkSs d22.body (ckOf P gls xs cs ocs fl ics xf xfl d22 (defScope (topm 40 9))) (defBody (topm 40 9)) = true := by decide +kernel
theorem sc23 : FnScope d23.slots d23.params (defScope (top 42)) := ⟨rfl, rfl, rfl, by decide +kernel, rfl, by decide +kernel, by decide +kernel⟩
theorem ch23 : chkSs d23.body (ckOf P gls xs cs ocs fl ics xf xfl d23 (defScope (top 42))) (defBody (top 42)) = true := by decide +kernel
theorem sc24 : FnScope d24.slots d24.params (defScope (top 43)) := ⟨rfl, rfl, rfl, by decide +kernel, rfl, by decide +kernel, by decide +kernel⟩
theorem ch24 : chkSs d24.body (ckOf P gls xs cs ocs fl ics xf xfl d24 (defScope (top 43))) (defBody (top 43)) = true := by decide +kernel
theorem sc25 : FnScope d25.slots d25.params (defScope (top 44)) := ⟨rfl, rfl, rfl, by decide +kernel, rfl, by decide +kernel, by decide +kernel⟩
theorem ch25 : chkSs d25.body (ckOf P gls xs cs ocs fl ics xf xfl d25 (defScope (top 44))) (defBody (top 44)) = true := by decide +kernel
theorem sc26 : FnScope d26.slots d26.params (defScope (top 45)) := ⟨rfl, rfl, rfl, by decide +kernel, rfl, by decide +kernel, by decide +kernel⟩
theorem ch26 : chkSs d26.body (ckOf P gls xs cs ocs fl ics xf xfl d26 (defScope (top 45))) (defBody (top 45)) = true := by decide +kernel
theorem sc27 : FnScope d27.slots d27.params (defScope (top 46)) := ⟨rfl, rfl, rfl, by decide +kernel, rfl, by decide +kernel, by decide +kernel⟩
theorem ch27 : chkSs d27.body (ckOf P gls xs cs ocs fl ics xf xfl d27 (defScope (top 46))) (defBody (top 46)) = true := by decide +kernel
theorem sc28 : FnScope d28.slots d28.params (defScope (top 47)) := ⟨rfl, rfl, rfl, by decide +kernel, rfl, by decide +kernel, by decide +kernel⟩
theorem ch28 : chkSs d28.body (ckOf P gls xs cs ocs fl ics xf xfl d28 (defScope (top 47))) (defBody (top 47)) = true := by decide +kernel
theorem sc29 : FnScope d29.slots d29.params (defScope (top 48)) := ⟨rfl, rfl, rfl, by decide +kernel, rfl, by decide +kernel, by decide +kernel⟩
theorem ch29 : chkSs d29.body (ckOf P gls xs cs ocs fl ics xf xfl d29 (defScope (top 48))) (defBody (top 48)) = true := by decide +kernel
theorem sc30 : FnScope d30.slots d30.params (defScope (top 49)) := ⟨rfl, rfl, rfl, by decide +kernel, rfl, by decide +kernel, by decide +kernel⟩
theorem ch30 : chkSs d30.body (ckOf P gls xs cs ocs fl ics xf xfl d30 (defScope (top 49))) (defBody (top 49)) = true := by decide +kernel
theorem sc31 : FnScope d31.slots d31.params (defScope (top 51)) := ⟨rfl, rfl, rfl, by decide +kernel, rfl, by decide +kernel, by decide +kernel⟩
theorem ch31 : chkSs d31.body (ckOf P gls xs cs ocs fl ics xf xfl d31 (defScope (top 51))) (defBody (top 51)) = true := by decide +kernel
theorem sc32 : FnScope d32.slots d32.params (defScope (top 52)) := ⟨rfl, rfl, rfl, by decide +kernel, rfl, by decide +kernel, by decide +kernel⟩
theorem ch32 : chkSs d32.body (ckOf P gls xs cs ocs fl ics xf xfl d32 (defScope (top 52))) (defBody (top 52)) = true := by decide +kernel
theorem sc33 : FnScope d33.slots d33.params (defScope (top 53)) := ⟨rfl, rfl, rfl, by decide +kernel, rfl, by decide +kernel, by decide +kernel⟩
theorem ch33 : chkSs d33.body (ckOf P gls xs cs ocs fl ics xf xfl d33 (defScope (top 53))) (defBody (top 53)) = true := by decide +kernel
theorem sc34 : FnScope d34.slots d34.params (defScope (top 54)) := ⟨rfl, rfl, rfl, by decide +kernel, rfl, by decide +kernel, by decide +kernel⟩
theorem ch34 : chkSs d34.body (ckOf P gls xs cs ocs fl ics xf xfl d34 (defScope (top 54))) (defBody (top 54)) = true := by decide +kernel
theorem sc35 : FnScope d35.slots d35.params (defScope (top 55)) := ⟨rfl, rfl, rfl, by decide +kernel, rfl, by decide +kernel, by decide +kernel⟩
theorem ch35 : chkSs d35.body (ckOf P gls xs cs ocs fl ics xf xfl d35 (defScope (top 55))) (defBody (top 55)) = true := by decide +kernel
theorem sc36 : FnScope d36.slots d36.params (defScope (top 56)) := ⟨rfl, rfl, rfl, by decide +kernel, rfl, by decide +kernel, by decide +kernel⟩
theorem ch36 : chkSs d36.body (ckOf P gls xs cs ocs fl ics xf xfl d36 (defScope (top 56))) (defBody (top 56)) = true := by decide +kernel
theorem sc37 : FnScope d37.slots d37.params (defScope (top 50)) := ⟨rfl, rfl, rfl, by decide +kernel, rfl, by decide +kernel, by decide +kernel⟩
theorem ch37 : chkSs d37.body (ckOf P gls xs cs ocs fl ics xf xfl d37 (defScope (top 50))) (defBody (top 50)) = true := by decide +kernel
def D0 : He.DefD := ⟨("_wall", none), "_wall", "_wall", defArgs (top 0), defBody (top 0), defScope (top 0), [], []⟩
def D1 : He.DefD := ⟨("is_name", none), "is_name", "is_name", defArgs (top 22), defBody (top 22), defScope (top 22), [], []⟩
def D2 : He.DefD := ⟨("way_to", none), "way_to", "way_to", defArgs (top 24), defBody (top 24), defScope (top 24), [], []⟩
def D3 : He.DefD := ⟨("chain_down", none), "chain_down", "chain_down", defArgs (top 25), defBody (top 25), defScope (top 25), [], []⟩
def D4 : He.DefD := ⟨("is_whole", none), "is_whole", "is_whole", defArgs (top 27), defBody (top 27), defScope (top 27), [], []⟩
def D5 : He.DefD := ⟨("divisor", none), "divisor", "divisor", defArgs (top 28), defBody (top 28), defScope (top 28), [], []⟩
def D6 : He.DefD := ⟨("fraction", none), "fraction", "fraction", defArgs (top 30), defBody (top 30), defScope (top 30), [(.int 1)], []⟩
def D7 : He.DefD := ⟨("is_fraction", none), "is_fraction", "is_fraction", defArgs (top 31), defBody (top 31), defScope (top 31), [], []⟩
def D8 : He.DefD := ⟨("product", none), "product", "product", defArgs (top 32), defBody (top 32), defScope (top 32), [], []⟩
def D9 : He.DefD := ⟨("is_less", none), "is_less", "is_less", defArgs (top 33), defBody (top 33), defScope (top 33), [], []⟩
def D10 : He.DefD := ⟨("next_ones", none), "next_ones", "next_ones", defArgs (top 35), defBody (top 35), defScope (top 35), [], []⟩
def D11 : He.DefD := ⟨("ways_out", none), "ways_out", "ways_out", defArgs (top 36), defBody (top 36), defScope (top 36), [], []⟩
def D12 : He.DefD := ⟨("need_name", none), "need_name", "need_name", defArgs (top 39), defBody (top 39), defScope (top 39), [], []⟩
def D13 : He.DefD := ⟨("Larder", some "__init__"), "__init__", "Larder.__init__", defArgs (topm 40 0), defBody (topm 40 0), defScope (topm 40 0), [], []⟩
def D14 : He.DefD := ⟨("Larder", some "note"), "note", "Larder.note", defArgs (topm 40 1), defBody (topm 40 1), defScope (topm 40 1), [], []⟩
def D15 : He.DefD := ⟨("Larder", some "part"), "part", "Larder.part", defArgs (topm 40 2), defBody (topm 40 2), defScope (topm 40 2), [], []⟩
def D16 : He.DefD := ⟨("Larder", some "stand"), "stand", "Larder.stand", defArgs (topm 40 3), defBody (topm 40 3), defScope (topm 40 3), [.non], []⟩
def D17 : He.DefD := ⟨("Larder", some "bar"), "bar", "Larder.bar", defArgs (topm 40 4), defBody (topm 40 4), defScope (topm 40 4), [], []⟩
def D18 : He.DefD := ⟨("Larder", some "allow"), "allow", "Larder.allow", defArgs (topm 40 5), defBody (topm 40 5), defScope (topm 40 5), [], []⟩
def D19 : He.DefD := ⟨("Larder", some "known"), "known", "Larder.known", defArgs (topm 40 6), defBody (topm 40 6), defScope (topm 40 6), [], []⟩
def D20 : He.DefD := ⟨("Larder", some "held"), "held", "Larder.held", defArgs (topm 40 7), defBody (topm 40 7), defScope (topm 40 7), [], []⟩
def D21 : He.DefD := ⟨("Larder", some "barred"), "barred", "Larder.barred", defArgs (topm 40 8), defBody (topm 40 8), defScope (topm 40 8), [], []⟩
def D22 : He.DefD := ⟨("Larder", some "stand_in"), "stand_in", "Larder.stand_in", defArgs (topm 40 9), defBody (topm 40 9), defScope (topm 40 9), [], []⟩
def D23 : He.DefD := ⟨("_law_cell_at", none), "_law_cell_at", "_law_cell_at", defArgs (top 42), defBody (top 42), defScope (top 42), [], []⟩
def D24 : He.DefD := ⟨("_law_names", none), "_law_names", "_law_names", defArgs (top 43), defBody (top 43), defScope (top 43), [], []⟩
def D25 : He.DefD := ⟨("_law_divisor_of", none), "_law_divisor_of", "_law_divisor_of", defArgs (top 44), defBody (top 44), defScope (top 44), [], []⟩
def D26 : He.DefD := ⟨("_law_lowest", none), "_law_lowest", "_law_lowest", defArgs (top 45), defBody (top 45), defScope (top 45), [], []⟩
def D27 : He.DefD := ⟨("_law_ratio", none), "_law_ratio", "_law_ratio", defArgs (top 46), defBody (top 46), defScope (top 46), [], []⟩
def D28 : He.DefD := ⟨("_law_free", none), "_law_free", "_law_free", defArgs (top 47), defBody (top 47), defScope (top 47), [], []⟩
def D29 : He.DefD := ⟨("_law_least", none), "_law_least", "_law_least", defArgs (top 48), defBody (top 48), defScope (top 48), [], []⟩
def D30 : He.DefD := ⟨("_law_due", none), "_law_due", "_law_due", defArgs (top 49), defBody (top 49), defScope (top 49), [], []⟩
def D31 : He.DefD := ⟨("_law_asked", none), "_law_asked", "_law_asked", defArgs (top 51), defBody (top 51), defScope (top 51), [], []⟩
def D32 : He.DefD := ⟨("_law_given_so", none), "_law_given_so", "_law_given_so", defArgs (top 52), defBody (top 52), defScope (top 52), [], []⟩
def D33 : He.DefD := ⟨("_law_barred_so", none), "_law_barred_so", "_law_barred_so", defArgs (top 53), defBody (top 53), defScope (top 53), [], []⟩
def D34 : He.DefD := ⟨("_law_right", none), "_law_right", "_law_right", defArgs (top 54), defBody (top 54), defScope (top 54), [], []⟩
def D35 : He.DefD := ⟨("_law_deed", none), "_law_deed", "_law_deed", defArgs (top 55), defBody (top 55), defScope (top 55), [], []⟩
def D36 : He.DefD := ⟨("law", none), "law", "law", defArgs (top 56), defBody (top 56), defScope (top 56), [], []⟩
def D37 : He.DefD := ⟨("_law_alone", none), "_law_alone", "_law_alone", defArgs (top 50), defBody (top 50), defScope (top 50), [], []⟩
def Dx0 : He.DefD := ⟨("NoStandIn", some "__init__"), "__init__", "NoStandIn.__init__", defArgs (topm 8 0), defBody (topm 8 0), defScope (topm 8 0), [], []⟩
theorem scx0 : FnScope ["self", "good"] ["self", "good"] (defScope (topm 8 0)) := ⟨rfl, rfl, rfl, by decide +kernel, rfl, by decide +kernel, by decide +kernel⟩
def Dx1 : He.DefD := ⟨("InRing", some "__init__"), "__init__", "InRing.__init__", defArgs (topm 7 0), defBody (topm 7 0), defScope (topm 7 0), [], []⟩
theorem scx1 : FnScope ["self", "ring"] ["self", "ring"] (defScope (topm 7 0)) := ⟨rfl, rfl, rfl, by decide +kernel, rfl, by decide +kernel, by decide +kernel⟩
def fn : List He.DefD := [D0, D1, D2, D3, D4, D5, D6, D7, D8, D9, D10, D11, D12, D13, D14, D15, D16, D17, D18, D19, D20, D21, D22, D23, D24, D25, D26, D27, D28, D29, D30, D31, D32, D33, D34, D35, D36, D37, Dx0, Dx1]
def fa : List He.Fa := [.glo "_wall", .glo "is_name", .glo "way_to", .glo "chain_down", .glo "is_whole", .glo "divisor", .glo "fraction", .glo "is_fraction", .glo "product", .glo "is_less", .glo "next_ones", .glo "ways_out", .glo "need_name", .glo "_law_cell_at", .glo "_law_names", .glo "_law_divisor_of", .glo "_law_lowest", .glo "_law_ratio", .glo "_law_free", .glo "_law_least", .glo "_law_due", .glo "_law_asked", .glo "_law_given_so", .glo "_law_barred_so", .glo "_law_right", .glo "_law_deed", .glo "law", .glo "_law_alone", .free "len", .free "abs", .free "str", .free "max", .free "min", .free "sum", .free "all", .free "any", .free "int", .free "list", .free "divmod", .free "isinstance", .free "range", .free "reversed", .free "enumerate", .free "zip", .free "bool", .free "tuple", .free "dict", .free "set", .free "sorted", .str "LETTERS" "abcdefghijklmnopqrstuvwxyz", .int "LONGEST" 12, .int "ROOM" 80, .exc "NoNumber", .exc "NoName", .exc "TooMany", .exc "NoStand", .glo "NoNumber", .glo "NoName", .glo "NoStandIn", .glo "TooMany", .glo "InRing", .glo "NoStand"]
def fp : List (Str × Option Str) := [(("_wall", none) : Str × Option Str), (("is_name", none) : Str × Option Str), (("way_to", none) : Str × Option Str), (("chain_down", none) : Str × Option Str), (("is_whole", none) : Str × Option Str), (("divisor", none) : Str × Option Str), (("fraction", none) : Str × Option Str), (("is_fraction", none) : Str × Option Str), (("product", none) : Str × Option Str), (("is_less", none) : Str × Option Str), (("next_ones", none) : Str × Option Str), (("ways_out", none) : Str × Option Str), (("need_name", none) : Str × Option Str), (("Larder", some "__init__") : Str × Option Str), (("Larder", some "note") : Str × Option Str), (("Larder", some "part") : Str × Option Str), (("Larder", some "stand") : Str × Option Str), (("Larder", some "bar") : Str × Option Str), (("Larder", some "allow") : Str × Option Str), (("Larder", some "known") : Str × Option Str), (("Larder", some "held") : Str × Option Str), (("Larder", some "barred") : Str × Option Str), (("Larder", some "stand_in") : Str × Option Str), (("_law_cell_at", none) : Str × Option Str), (("_law_names", none) : Str × Option Str), (("_law_divisor_of", none) : Str × Option Str), (("_law_lowest", none) : Str × Option Str), (("_law_ratio", none) : Str × Option Str), (("_law_free", none) : Str × Option Str), (("_law_least", none) : Str × Option Str), (("_law_due", none) : Str × Option Str), (("_law_asked", none) : Str × Option Str), (("_law_given_so", none) : Str × Option Str), (("_law_barred_so", none) : Str × Option Str), (("_law_right", none) : Str × Option Str), (("_law_deed", none) : Str × Option Str), (("law", none) : Str × Option Str), (("_law_alone", none) : Str × Option Str)]
def exB (K : PySem.W.Frag) : Bool := (csB xfl xs cd K && obB ocs fl fp K && icB ocs ics K) && (xfkB K "NoStandIn" "StoveError" "good" && (xfkB K "InRing" "StoveError" "ring" && true))
abbrev R : PySem.W.OpenRow := PySem.W.OpenLaw.row PySem.Challenge.rw_stovework_k26_stand_in
abbrev hk : PySem.W.Hook := hookY 5 fa fn exB
def ob (s : PySem.W.SharedT) : He.AlX := obsY 5 fa fn exB (HandSHeadRun.getT s)
theorem ob_eq (s : PySem.W.SharedT) : ob s = hk.obs s.abs := obsY_eq (HandSHeadRun.getT_eq s)
def loose : List Str := (["_wall", "StoveError", "NoNumber", "NoAmount", "NoName", "NoStand", "InRing", "NoStandIn", "TooMany", "NoRow", "NoStep", "Twice"] : List Str) ++ (["NoPack", "NoNet", "NoPlan", "EmptyHeap", "TooFew", "NoDish", "LETTERS", "LONGEST", "is_name", "way_to", "chain_down", "is_whole"] : List Str) ++ (["divisor", "fraction", "is_fraction", "product", "is_less", "next_ones", "ways_out", "ROOM", "need_name", "Larder", "_law_cell_at", "_law_names"] : List Str) ++ (["_law_divisor_of", "_law_lowest", "_law_ratio", "_law_free", "_law_least", "_law_due", "_law_alone", "_law_asked", "_law_given_so", "_law_barred_so", "_law_right", "_law_deed"] : List Str)
theorem run (w : World) : HandSHeadRun.RunEq R (PySem.W.view R.prog [56]) hk ob 9000 loose w := by
  intro os
  kernel_rfl
theorem wd_int (a : Int) : (WD.w a : W) = .int a := rfl
theorem wd_str (a : Str) : (WD.w a : W) = .str a := rfl
theorem wd_lst {α : Type} [DecidableEq α] [Datum α] [WD α] (a : List α) : (WD.w a : W) = .lv (a.map WD.w) := rfl
theorem maxS_3 {a b c : Int} {g : G} {q : VK3} : maxS [.int a, .int b, .int c] g q = q (.int (mx2 (mx2 a b) c)) g := rfl
local macro_rules | `(tactic| walk_at "S") => `(tactic| (simp only [e2, e1, eL, eM, aNil, aCons, eIf, eTup, eLst, eSl, eC, eDic, if_ff, if_tt, bT, boS, coS, prS, mtS, mtT, addS_ii, addS_ss, addS_tt, addS_rr, addS_lr, addS_rl, addS_ll, subS_ii, mulS_l, mulS_r, fdivS_k, modS_k, powS_10, powS_2, negS_i, eqS_ii, eqS_ss, eqS_bb, ltS_ii, leS_ii, gtS_ii, geS_ii, ltS_ss, leS_ss, isS_n, isS_i, isS_s, isS_b, isS_t, isS_c, isS_r, isS_e, isS_l, isS_bb, isS_non_opt, wipe3, Option.isNone_none, Option.isNone_some, optW, lenS_str, lenS_tup, lenS_scr, lenS_lv, lenG, absS, strS, listS_scr, listS_tup, listS_lv, maxS, minS, max2S, min2S, i2F, i1F, eVar_0, eVar_s, ex_int, ex_bl, ex_str, Ends3.xk, enN, suD, unN, List.isEmpty_nil, List.isEmpty_cons, eIsx_0, eIsx_0x, eIsx_s, eIsxs_0, eIsxs_0x, eIsxs_s, anyR_nil, anyR_cons, eXat_0, eXat_s, suR_nil, suR_cons, ex_su, DDh, ex_some, List.getElem?_cons_zero, List.getElem?_cons_succ, seqAt_tup, seqAt_scr, seqAt_lv, seqAt_ref, walkS_ref, walkS_tup, walkS_scr, walkS_lv, walkL_ref, walkL_scr, walkL_lv, asg, setAll, xor_f, xor_t, true_and, and_true, if_t, if_f, isiS_int, isiS_bl, isiS_str, isiS_non, isiS_tup, isiS_scr, isiS_lv, isi_ii, isi_ib, isi_bb, isi_bi, isi_tt, isi_ll, isi_ss, isi_dd, isi_si, isi_ni, isi_ti, isi_li, isi_di, isi_lt, isi_it, isi_nt, isi_st, isi_bt, Bool.not_true, Bool.not_false, decide_eq_true_eq, Bool.not_eq_true', decide_eq_false_iff_not, if_true, if_false, not_true_eq_false, not_false_eq_true, decide_true, decide_false, Bool.true_eq_false, Bool.false_eq_true, abs_ite, DD, ixT0, ixT1, ixT2, ixT3, ixT4, ixG, ln0, ln1, ln2, ln3, ln4, ln5, ln6, ln7, ln8, slS, lst_same, sv, ev, evs, evi, evc, evo, evf, evAnd, evOr, List.set_cons_zero, List.set_cons_succ, frzS_int, frzS_bl, frzS_str, frzS_non, frzS_tup, frzS_lv, frzS_scr, frzS_gup, frzI_0, frzI_s, rtS_same, exS_same, fmtS, Int.reduceEq, Int.reduceLT, Int.reduceLE, Int.reduceNe, Int.reduceToNat, Int.reducePow, Int.reduceMul, Int.reduceSub, Int.reduceAdd, Int.reduceNeg, Nat.reduceLT, ne_eq, ite_true, ite_false, wd_int, wd_str, wd_lst, maxS_3, mn_0_note, mn_0_part, mn_0_stand, mn_0_bar, mn_0_allow, mn_0_known, mn_0_held, mn_0_barred, mn_0_stand_in, glv_0, glv_1, glv_2]))
local macro_rules | `(tactic| walk_at "ss") => `(tactic| ((try walk_at "S"); repeat (with_reducible refine newF ?_; try walk_at "S")))
local macro_rules | `(tactic| walk_at "st") => `(tactic| (refine st_of rfl ?_; walk_at "S"; repeat (with_reducible refine newF ?_; try walk_at "S")))
local macro_rules | `(tactic| walk_at "nl") => `(tactic| (refine nl_of ?_; (try dsimp only)))
local macro_rules | `(tactic| walk_at "go") => `(tactic| (repeat (first | (refine nl_of ?_; (try dsimp only); (try walk_at "S")) | walk_at "st")))
abbrev cN : Nat := 0
abbrev cH : Nat := 0
abbrev exH : Nat := 0
theorem c_cell {n : Nat} {ns : List Int} {k : Nat} {g : G} {x : XK3} {q : VK3} (h : q (.int (ns.getD k 0)) g) : callF P gl (n + 1) 23 [.scr (ns.map W.int), .int (k : Int)] g x q := by
  refine u23 ?_
  walk_at "st"
  by_cases hk : k < ns.length
  · rw [if_pos (by simpa using hk)]
    walk_at "st"
    refine ⟨.int (ns.getD k 0), ?_, rt_keep h⟩
    rw [atI_n]
    simp [hk]
  · rw [if_neg (by simpa using hk)]
    walk_at "nl"
    walk_at "st"
    have e : ns.getD k 0 = 0 := by simp at hk; simp [List.getD, hk]
    rw [e] at h
    exact h
theorem sl_le {n : Nat} (h : n ≤ 100000) : n ≤ sizeLine := Nat.le_of_lt (small_line h)
theorem ix_w {α : Type} [DecidableEq α] [Datum α] [WD α] {xs : List α} {k : Nat} {y : α} {g : G} {q : VK3} (e : xs[k]? = some y) (hq : q (WD.w y) g) : ixS (.lv (xs.map WD.w)) (.int (k : Int)) g q := ixV_m e hq
theorem ext_gdel {g g' : G} {p : Addr} (x : Ext g g') (h : g p = none) : Ext g (gdel g' p) := fun a o ha => by
  rw [gdel_ne (fun z => by rw [z, h] at ha; cases ha)]
  exact x a o ha
abbrev pairW (e : Str × Str) : W := .tup [.str e.1, .str e.2]
def kvS (S : List Str) : List (Key × W) := S.map fun s => (Sum.inr s, W.bl true)
theorem kvS_get {S : List Str} {s : Str} : (dGet (kvS S) (.inr s)).isSome = decide (s ∈ S) := by
  induction S with
  | nil => rfl
  | cons a S ih =>
    unfold kvS at ih ⊢
    rw [List.map_cons, dGet_cons]
    by_cases h : a = s
    · subst h; simp
    · rw [if_neg (by simpa using h), ih]
      simp [Ne.symm h]
theorem kvS_put {S : List Str} {s : Str} : dPut (kvS S) (.inr s) (.bl true) = kvS (if s ∈ S then S else S ++ [s]) := by
  unfold dPut
  rw [any_dGet, kvS_get]
  by_cases h : s ∈ S
  · rw [if_pos (by simpa using h), if_pos h]
    unfold kvS
    rw [List.map_map]
    refine List.map_congr_left fun a _ => ?_
    show (if (Sum.inr a : Key) = .inr s then ((Sum.inr a : Key), W.bl true) else (Sum.inr a, W.bl true)) = _
    split <;> rfl
  · rw [if_neg (by simpa using h), if_neg h]
    simp [kvS]
theorem nd_sub : ∀ {L S : List Str}, S.Nodup → (∀ x ∈ S, x ∈ L) → S.length ≤ L.length
  | [], [], _, _ => Nat.le_refl _
  | [], x :: _, _, h => by have := h x List.mem_cons_self; cases this
  | a :: L, S, nd, h => by
    have ih := nd_sub (L := L) (S := S.erase a) (nd.erase _) fun x hx => by
      rw [nd.mem_erase_iff] at hx
      exact (List.mem_cons.mp (h x hx.2)).resolve_left hx.1
    have : S.length ≤ (S.erase a).length + 1 := by rw [List.length_erase]; split <;> omega
    simp only [List.length_cons]
    omega
theorem in_dicS {g : G} {a : Addr} {lk : Bool} {S : List Str} {s : Str} {neg : Bool} {q : VK3} (h : g a = some (.dic lk (kvS S))) (hq : q (.bl (xor neg (decide (s ∈ S)))) g) : inS neg (.str s) (.ref a) g q := by
  simp only [inS, h, dicAt, toKey, kvS_get]
  exact hq
theorem put_dicS {g : G} {a : Addr} {S : List Str} {s : Str} {k : G → Prop} (h : g a = some (.dic false (kvS S))) (hl : S.length ≤ 100000) (hk : k (gup g a (.dic false (kvS (if s ∈ S then S else S ++ [s]))))) : putS (.ref a) (.str s) (.bl true) g k := by
  simp only [putS, h, toKey]
  rw [kvS_put]
  exact ⟨small_line (by simpa [kvS] using hl), hk⟩
theorem lenD {g : G} {a : Addr} {lk : Bool} {kvs : List (Key × W)} {q : VK3} (h : g a = some (.dic lk kvs)) : lenS [.ref a] g q = q (.int kvs.length) g := by simp [lenS, h]
theorem kvS_len {S : List Str} : (kvS S).length = S.length := by simp [kvS]
theorem kvS_keys {S : List Str} : (kvS S).map (fun p => kW p.1) = S.map W.str := by simp [kvS, Function.comp_def, kW]
abbrev RowD := Str × Addr × List Str
def rowK (D : List RowD) : List (Key × W) := D.map fun e => (Sum.inr e.1, W.ref e.2.1)
structure PD (g : G) (pd : Addr) (D : List RowD) (Ps : List (Str × Str)) : Prop where
  at_ : g pd = some (.dic false (rowK D))
  row : ∀ e ∈ D, g e.2.1 = some (.dic false (kvS e.2.2))
  nd : (D.map (·.1)).Nodup
  ps : ∀ u v, (u, v) ∈ Ps ↔ ∃ e ∈ D, e.1 = u ∧ v ∈ e.2.2
theorem rowK_get {u : Str} : ∀ {D : List RowD}, (∃ e ∈ D, e.1 = u ∧ dGet (rowK D) (.inr u) = some (.ref e.2.1)) ∨ ((∀ e ∈ D, e.1 ≠ u) ∧ dGet (rowK D) (.inr u) = none)
  | [] => .inr ⟨(fun e he => nomatch he), rfl⟩
  | e :: D => by
    have ih := rowK_get (u := u) (D := D)
    unfold rowK at ih ⊢
    rw [List.map_cons, dGet_cons]
    by_cases h : e.1 = u
    · exact .inl ⟨e, List.mem_cons_self, h, by rw [if_pos (by rw [h])]⟩
    · rw [if_neg (by simpa using h)]
      rcases ih with ⟨e', h1, h2, h3⟩ | ⟨h1, h2⟩
      · exact .inl ⟨e', List.mem_cons_of_mem _ h1, h2, h3⟩
      · refine .inr ⟨fun e' he => ?_, h2⟩
        rcases List.mem_cons.mp he with rfl | he
        · exact h
        · exact h1 e' he
theorem key_uniq {D : List RowD} (nd : (D.map (·.1)).Nodup) {a b : RowD} (ha : a ∈ D) (hb : b ∈ D) (h : a.1 = b.1) : a = b := by
  induction D with
  | nil => cases ha
  | cons c D ih =>
    rw [List.map_cons, List.nodup_cons] at nd
    rcases List.mem_cons.mp ha with e1 | ha2
    · rcases List.mem_cons.mp hb with e2 | hb2
      · rw [e1, e2]
      · subst e1; exact absurd (show a.1 ∈ D.map (·.1) from List.mem_map.mpr ⟨b, hb2, h.symm⟩) nd.1
    · rcases List.mem_cons.mp hb with e2 | hb2
      · subst e2; exact absurd (show b.1 ∈ D.map (·.1) from List.mem_map.mpr ⟨a, ha2, h⟩) nd.1
      · exact ih nd.2 ha2 hb2
theorem isDic_of {g : G} {a : Addr} {lk : Bool} {kvs : List (Key × W)} (h : g a = some (.dic lk kvs)) : isDic (.ref a) g := by simp [isDic, h]
theorem dget_dic {g : G} {a : Addr} {lk : Bool} {kvs : List (Key × W)} {u : Str} {d : W} {q : VK3} (h : g a = some (.dic lk kvs)) (hq : q ((dGet kvs (.inr u)).getD d) g) : dgetS (.ref a) (.str u) d g q := by
  simp only [dgetS, dicAt, h, toKey]
  exact hq
theorem Ext.at {g g' : G} {a : Addr} {o : GO} (x : Ext g g') (h : g a = some o) : g' a = some o := x a o h
structure PE (g : G) (pd : Addr) (D : List RowD) (Ps : List (Str × Str)) : Prop where
  pd_ : PD g pd D Ps
  rn : ∀ e ∈ D, e.2.2.Nodup
  full : ∀ e ∈ D, e.2.2 ≠ []
  inj : ∀ e ∈ D, ∀ e' ∈ D, e.2.1 = e'.2.1 → e = e'
  ne : ∀ e ∈ D, e.2.1 ≠ pd
structure PF (g0 g : G) (pd : Addr) (D : List RowD) : Prop where
  x : Ext g0 g
  p : g0 pd = none
  r : ∀ e ∈ D, g0 e.2.1 = none
theorem PD.tr {g g' : G} {pd : Addr} {D : List RowD} {Ps : List (Str × Str)} (h : PD g pd D Ps) (h1 : g' pd = g pd) (h2 : ∀ e ∈ D, g' e.2.1 = g e.2.1) : PD g' pd D Ps :=
  ⟨h1.trans h.at_, fun e he => (h2 e he).trans (h.row e he), h.nd, h.ps⟩
theorem PE.tr {g g' : G} {pd : Addr} {D : List RowD} {Ps : List (Str × Str)} (h : PE g pd D Ps) (h1 : g' pd = g pd) (h2 : ∀ e ∈ D, g' e.2.1 = g e.2.1) : PE g' pd D Ps :=
  ⟨h.pd_.tr h1 h2, h.rn, h.full, h.inj, h.ne⟩
theorem PE.ext {g g' : G} {pd : Addr} {D : List RowD} {Ps : List (Str × Str)} (h : PE g pd D Ps) (x : Ext g g') : PE g' pd D Ps :=
  h.tr ((x _ _ h.pd_.at_).trans h.pd_.at_.symm) fun e he => (x _ _ (h.pd_.row e he)).trans (h.pd_.row e he).symm
theorem PE.lst {g : G} {b : Addr} {xs : List W} {o : GO} {pd : Addr} {D : List RowD} {Ps : List (Str × Str)} (h : PE g pd D Ps) (hb : g b = some (.lst xs)) : PE (gup g b o) pd D Ps :=
  h.tr (gup_ne fun z => by subst z; rw [h.pd_.at_] at hb; cases hb) fun e he => gup_ne fun z => by subst z; have := h.pd_.row e he; rw [hb] at this; cases this
theorem PE.del {g : G} {b : Addr} {xs : List W} {pd : Addr} {D : List RowD} {Ps : List (Str × Str)} (h : PE g pd D Ps) (hb : g b = some (.lst xs)) : PE (gdel g b) pd D Ps :=
  h.tr (gdel_ne fun z => by subst z; rw [h.pd_.at_] at hb; cases hb) fun e he => gdel_ne fun z => by subst z; have := h.pd_.row e he; rw [hb] at this; cases this
theorem PE.rlen {g : G} {pd : Addr} {D : List RowD} {Ps : List (Str × Str)} (h : PE g pd D Ps) : ∀ e ∈ D, e.2.2.length ≤ Ps.length := fun e he => by
  have := nd_sub (L := Ps.map (·.2)) (S := e.2.2) (h.rn e he) fun x hx => List.mem_map.mpr ⟨(e.1, x), (h.pd_.ps e.1 x).mpr ⟨e, he, rfl, hx⟩, rfl⟩
  simpa using this
theorem PE.dlen {g : G} {pd : Addr} {D : List RowD} {Ps : List (Str × Str)} (h : PE g pd D Ps) : D.length ≤ Ps.length := by
  have := nd_sub (L := Ps.map (·.1)) (S := D.map (·.1)) h.pd_.nd fun x hx => by
    obtain ⟨e, he, rfl⟩ := List.mem_map.mp hx
    obtain ⟨y, hy⟩ := List.exists_mem_of_ne_nil _ (h.full e he)
    exact List.mem_map.mpr ⟨(e.1, y), (h.pd_.ps e.1 y).mpr ⟨e, he, rfl, hy⟩, rfl⟩
  simpa using this
def setR (u : Str) (S : List Str) (D : List RowD) : List RowD := D.map fun e => if e.1 = u then (e.1, e.2.1, S) else e
theorem rowK_setR {u : Str} {S : List Str} {D : List RowD} : rowK (setR u S D) = rowK D := by
  unfold rowK setR
  rw [List.map_map]
  refine List.map_congr_left fun e _ => ?_
  simp only [Function.comp]
  split <;> rfl
theorem setR_mem {u : Str} {S : List Str} {D : List RowD} {e : RowD} (h : e ∈ setR u S D) : ∃ e0 ∈ D, e = (if e0.1 = u then (e0.1, e0.2.1, S) else e0) ∧ e.1 = e0.1 ∧ e.2.1 = e0.2.1 := by
  obtain ⟨e0, h0, rfl⟩ := List.mem_map.mp h
  refine ⟨e0, h0, rfl, ?_, ?_⟩ <;> split <;> rfl
theorem setR_keys {u : Str} {S : List Str} {D : List RowD} : (setR u S D).map (·.1) = D.map (·.1) := by
  unfold setR
  rw [List.map_map]
  refine List.map_congr_left fun e _ => ?_
  simp only [Function.comp]
  split <;> rfl
theorem PE.put_old {g : G} {pd : Addr} {D : List RowD} {Ps : List (Str × Str)} (h : PE g pd D Ps) {e : RowD} (he : e ∈ D) (v : Str) :
    PE (gup g e.2.1 (.dic false (kvS (if v ∈ e.2.2 then e.2.2 else e.2.2 ++ [v])))) pd (setR e.1 (if v ∈ e.2.2 then e.2.2 else e.2.2 ++ [v]) D) (Ps ++ [(e.1, v)]) := by
  have hm : ∀ y, y ∈ (if v ∈ e.2.2 then e.2.2 else e.2.2 ++ [v]) ↔ y ∈ e.2.2 ∨ y = v := fun y => by
    split
    · exact ⟨.inl, fun z => z.elim id fun z => by subst z; assumption⟩
    · simp
  have hnd : (if v ∈ e.2.2 then e.2.2 else e.2.2 ++ [v]).Nodup := by
    split
    · exact h.rn e he
    · rename_i hv
      rw [List.nodup_append]
      refine ⟨h.rn e he, by simp, fun a ha c hc => ?_⟩
      rw [List.mem_singleton.mp hc]
      exact fun z => hv (z ▸ ha)
  have hfu : (if v ∈ e.2.2 then e.2.2 else e.2.2 ++ [v]) ≠ [] := fun z => by
    have := (hm v).mpr (.inr rfl)
    rw [z] at this; cases this
  generalize (if v ∈ e.2.2 then e.2.2 else e.2.2 ++ [v]) = S at *
  have same : ∀ e0 ∈ D, e0.1 = e.1 → e0 = e := fun e0 h0 z => key_uniq h.pd_.nd h0 he z
  refine ⟨⟨?_, fun e' he' => ?_, by rw [setR_keys]; exact h.pd_.nd, fun u w => ?_⟩, fun e' he' => ?_, fun e' he' => ?_, fun a ha b hb z => ?_, fun e' he' => ?_⟩
  · rw [gup_ne (Ne.symm (h.ne e he)), rowK_setR]; exact h.pd_.at_
  · obtain ⟨e0, h0, rfl, e1, e2⟩ := setR_mem he'
    by_cases c : e0.1 = e.1
    · have := same e0 h0 c; subst this
      rw [if_pos rfl]; exact gup_same
    · rw [if_neg c]
      rw [gup_ne (fun z => c (by rw [h.inj e0 h0 e he z]))]
      exact h.pd_.row e0 h0
  · rw [List.mem_append, h.pd_.ps]
    constructor
    · rintro (⟨e0, h0, rfl, hw⟩ | hw)
      · refine ⟨_, List.mem_map.mpr ⟨e0, h0, rfl⟩, ?_, ?_⟩
        · split <;> rfl
        · by_cases c : e0.1 = e.1
          · have := same e0 h0 c; subst this
            rw [if_pos rfl]; exact (hm w).mpr (.inl hw)
          · rw [if_neg c]; exact hw
      · have hw := List.mem_singleton.mp hw
        injection hw with w1 w2
        subst w1 w2
        exact ⟨_, List.mem_map.mpr ⟨e, he, rfl⟩, by rw [if_pos rfl], by rw [if_pos rfl]; exact (hm _).mpr (.inr rfl)⟩
    · rintro ⟨e', he', rfl, hw⟩
      obtain ⟨e0, h0, rfl, e1, e2⟩ := setR_mem he'
      by_cases c : e0.1 = e.1
      · have := same e0 h0 c; subst this
        rw [if_pos rfl] at hw ⊢
        rcases (hm w).mp hw with z | z
        · exact .inl ⟨e0, h0, rfl, z⟩
        · subst z; exact .inr (by simp)
      · rw [if_neg c] at hw ⊢
        exact .inl ⟨e0, h0, rfl, hw⟩
  · obtain ⟨e0, h0, rfl, e1, e2⟩ := setR_mem he'
    split
    · exact hnd
    · exact h.rn e0 h0
  · obtain ⟨e0, h0, rfl, e1, e2⟩ := setR_mem he'
    split
    · exact hfu
    · exact h.full e0 h0
  · obtain ⟨a0, a1, rfl, a2, a3⟩ := setR_mem ha
    obtain ⟨b0, b1, rfl, b2, b3⟩ := setR_mem hb
    rw [a3, b3] at z
    rw [h.inj a0 a1 b0 b1 z]
  · obtain ⟨e0, h0, _, e1, e2⟩ := setR_mem he'
    rw [e2]; exact h.ne e0 h0
theorem PE.put_new {g g1 : G} {pd p : Addr} {D : List RowD} {Ps : List (Str × Str)} (h : PE g pd D Ps) (hp : g p = none) {u : Str} (hu : ∀ e ∈ D, e.1 ≠ u) (v : Str) (h1 : g1 pd = some (.dic false (rowK D ++ [(.inr u, .ref p)]))) (h2 : ∀ e ∈ D, g1 e.2.1 = g e.2.1) :
    PE (gup g1 p (.dic false (kvS [v]))) pd (D ++ [(u, p, [v])]) (Ps ++ [(u, v)]) := by
  have np : pd ≠ p := ne_free h.pd_.at_ hp
  have nr : ∀ e ∈ D, e.2.1 ≠ p := fun e he => ne_free (h.pd_.row e he) hp
  have mem : ∀ {e : RowD}, e ∈ D ++ [(u, p, [v])] → e ∈ D ∨ e = (u, p, [v]) := fun h => (List.mem_append.mp h).imp id List.mem_singleton.mp
  refine ⟨⟨?_, fun e he => ?_, ?_, fun a b => ?_⟩, fun e he => ?_, fun e he => ?_, fun a ha b hb z => ?_, fun e he => ?_⟩
  · rw [gup_ne np, h1]; simp [rowK]
  · rcases mem he with he | rfl
    · rw [gup_ne (nr e he), h2 e he]; exact h.pd_.row e he
    · exact gup_same
  · rw [List.map_append, List.nodup_append]
    refine ⟨h.pd_.nd, by simp, fun a ha c hc => ?_⟩
    obtain ⟨e, he, rfl⟩ := List.mem_map.mp ha
    simp at hc; subst hc
    exact hu e he
  · rw [List.mem_append, h.pd_.ps]
    constructor
    · rintro (⟨e, he, rfl, hb⟩ | hb)
      · exact ⟨e, List.mem_append_left _ he, rfl, hb⟩
      · have hb := List.mem_singleton.mp hb
        injection hb with w1 w2
        subst w1 w2
        exact ⟨_, List.mem_append_right _ (List.mem_singleton.mpr rfl), rfl, by simp⟩
    · rintro ⟨e, he, rfl, hb⟩
      rcases mem he with he | rfl
      · exact .inl ⟨e, he, rfl, hb⟩
      · have : b = v := by simpa using hb
        subst this; exact .inr (by simp)
  · rcases mem he with he | rfl
    · exact h.rn e he
    · simp
  · rcases mem he with he | rfl
    · exact h.full e he
    · simp
  · rcases mem ha with ha | rfl <;> rcases mem hb with hb | rfl
    · exact h.inj a ha b hb z
    · exact absurd z (nr a ha)
    · exact absurd z.symm (nr b hb)
    · rfl
  · rcases mem he with he | rfl
    · exact h.ne e he
    · exact np.symm
theorem fd_of {i j : Int} {b : Nat} [hb : Bt j b] {g : G} {q : VK3} (h0 : j ≠ 0) (h : b ≤ 9000) (hq : q (.int (i.fdiv j)) g) : fdivS (.int i) (.int j) g q := ⟨divC h0 h, hq⟩
theorem c_isw {n : Nat} {i : Int} {g : G} {x : XK3} {q : VK3} (h : q (.bl true) g) : callF P gl (n + 1) 4 [.int i] g x q := by
  refine u4 ?_
  refine st_of rfl ?_
  walk_at "ss"
  first | exact rt_keep h | exact h
theorem c_div {n : Nat} {a b : Int} {g : G} {x : XK3} {q : VK3} (h : q (.int (Int.gcd a b)) g) : callF P gl (n + 1) 5 [.int a, .int b] g x q := by
  refine u5 ?_
  refine st_of rfl (wh (fun s g' => g' = g ∧ ∃ u v : Int, s = [some (.int u), some (.int v)] ∧ Int.gcd u v = Int.gcd a b) (fun s => match s with | [_, some (.int v)] => v.natAbs | _ => 0) ⟨rfl, a, b, rfl, rfl⟩ ?_)
  rintro s g' ⟨rfl, u, v, rfl, e⟩
  walk_at "ss"
  by_cases hv : v = 0
  · subst hv
    rw [if_neg (by simp)]
    refine st_of rfl ?_
    walk_at "ss"
    have e3 : (u.natAbs : Int) = (Int.gcd a b : Int) := by rw [← e, Int.gcd_zero_right]
    rw [e3]
    first | exact rt_keep h | exact h
  · rw [if_pos (by simpa using hv)]
    refine st_of rfl ?_
    walk_at "ss"
    refine mod_of hv ?_
    refine ⟨fmod_lt u hv, rfl, v, u.fmod v, rfl, by rw [gcd_fmod]; exact e⟩
theorem c_frac {n : Nat} {a b : Int} {A B : Nat} [Bt a A] [Bt b B] {g : G} {x : XK3} {q : VK3} (hb : b ≠ 0) (hB : max A B ≤ 9000) (h : ∀ t u, Low a b t u → q (.tup [.int t, .int u]) g) : callF P gl (n + 2) 6 [.int a, .int b] g x q := by
  refine u6 ?_
  refine st_of rfl ?_
  walk_at "ss"
  refine c_isw ⟨true, rfl, ?_⟩
  walk_at "ss"
  refine c_isw ⟨true, rfl, ?_⟩
  walk_at "ss"
  rw [if_neg hb]
  walk_at "nl"
  refine st_of rfl ?_
  walk_at "ss"
  refine c_div ?_
  have hg : (Int.gcd a b : Int) ≠ 0 := by
    have : Int.gcd a b ≠ 0 := fun z => by rw [Int.gcd_eq_zero_iff] at z; omega
    omega
  have L := low_any hb (a := a)
  refine st_of rfl ?_
  walk_at "ss"
  by_cases hn : b < 0
  · rw [if_pos hn]
    rw [if_pos hn] at L
    refine st_of rfl ?_
    walk_at "ss"
    walk_at "nl"
    refine st_of rfl ?_
    walk_at "ss"
    refine fd_of (by omega) hB ?_
    refine fd_of (by omega) hB ?_
    first | exact rt_keep (h _ _ L) | exact h _ _ L
  · rw [if_neg hn]
    rw [if_neg hn] at L
    walk_at "nl"
    refine st_of rfl ?_
    walk_at "ss"
    refine fd_of (by omega) hB ?_
    refine fd_of (by omega) hB ?_
    first | exact rt_keep (h _ _ L) | exact h _ _ L
theorem c_prod {n : Nat} {a b c d : Int} {A B C D : Nat} [Bt a A] [Bt b B] [Bt c C] [Bt d D] {g : G} {x : XK3} {q : VK3} (hb : b ≠ 0) (hd : d ≠ 0) (hs : A + B + C + D ≤ 8000) (h : ∀ t u, Low (a * c) (b * d) t u → q (.tup [.int t, .int u]) g) : callF P gl (n + 3) 8 [.tup [.int a, .int b], .tup [.int c, .int d]] g x q := by
  refine u8 ?_
  refine st_of rfl ?_
  walk_at "ss"
  refine mul_of (mulC (by omega)) (mul_of (mulC (by omega)) ?_)
  refine c_frac (Int.mul_ne_zero hb hd) (by omega) fun t u L => ?_
  first | exact rt_keep (h _ _ L) | exact h _ _ L
abbrev Rt := Int × Int
abbrev Ent := List Str × Rt
def strLt (a b : Str) : Bool := DatumOrd.lt a b
abbrev chLt (p q : List Str) : Bool := listLt p q
theorem chLt_irr (p : List Str) : chLt p p = false := OrdL.irr (α := List Str) p
theorem chLt_tr {p q r : List Str} (h1 : chLt p q = true) (h2 : chLt q r = true) : chLt p r = true := OrdL.tr (α := List Str) p q r h1 h2
theorem chLt_tri {p q : List Str} (h : p ≠ q) : chLt p q = true ∨ chLt q p = true := OrdL.tri (α := List Str) p q h
theorem chLt_as {p q : List Str} (h : chLt p q = true) : chLt q p = false := by
  cases e : chLt q p with
  | false => rfl
  | true => have := chLt_tr h e; rw [chLt_irr] at this; cases this
theorem chLt_par : ∀ {p q : List Str} {u v : Str}, p.length = q.length → chLt p q = true → chLt (p ++ [u]) (q ++ [v]) = true
  | [], [], _, _, _, h => by cases h
  | [], _ :: _, _, _, h, _ => by simp at h
  | _ :: _, [], _, _, h, _ => by simp at h
  | x :: p, y :: q, u, v, hl, h => by
    unfold chLt at h ⊢
    rw [listLt] at h
    rw [List.cons_append, List.cons_append, listLt]
    by_cases e : x = y
    · rw [if_pos e] at h ⊢
      exact chLt_par (by simpa using hl) h
    · rw [if_neg e] at h ⊢; exact h
theorem chLt_last : ∀ {p : List Str} {u v : Str}, strLt u v = true → chLt (p ++ [u]) (p ++ [v]) = true
  | [], u, v, h => by
    show listLt [u] [v] = true
    rw [listLt]
    by_cases e : u = v
    · subst e; unfold strLt at h; rw [OrdL.irr (α := Str)] at h; cases h
    · rw [if_neg e]; exact h
  | x :: p, u, v, h => by
    unfold chLt
    rw [List.cons_append, List.cons_append, listLt, if_pos rfl]
    exact chLt_last h
def ahd (p q : List Str) : Prop := p.length < q.length ∨ (p.length = q.length ∧ chLt p q = true)
def endE (e : Ent) : Str := (e.1.getLast?).getD (Str.ofString "")
theorem endE_snoc {p : List Str} {v : Str} {r : Rt} : endE (p ++ [v], r) = v := by simp [endE]
structure EntOk (Bb : Nat) (e : Ent) : Prop where
  pos : 0 < e.2.2
  b1 : e.2.1.natAbs < 2 ^ (Bb * e.1.length)
  b2 : e.2.2.natAbs < 2 ^ (Bb * e.1.length)
  ne : e.1 ≠ []
structure WO (rat : Str → Str → Option Rt) (good : Str) (Bb : Nat) (A : List Ent) (x : Nat) : Prop where
  h0 : A[0]? = some ([good], (1, 1))
  nd : (A.map endE).Nodup
  par : ∀ (i : Nat) (e : Ent), A[i]? = some e → 0 < i → ∃ (j : Nat) (d : Ent) (v : Str) (r : Rt), j < i ∧ A[j]? = some d ∧ rat (endE d) v = some r ∧ e.1 = d.1 ++ [v] ∧ Low (d.2.1 * r.1) (d.2.2 * r.2) e.2.1 e.2.2
  ord : A.Pairwise fun a b => ahd a.1 b.1
  cl : ∀ (i : Nat) (e : Ent) (v : Str), i < x → A[i]? = some e → rat (endE e) v ≠ none → ∃ d ∈ A, endE d = v ∧ ¬ ahd (e.1 ++ [v]) d.1
  ok : ∀ e ∈ A, EntOk Bb e
  len : ∀ (i : Nat) (e : Ent), A[i]? = some e → e.1.length ≤ i + 1
  xl : x ≤ A.length
section
variable {rat : Str → Str → Option Rt} {good : Str} {Bb : Nat}
theorem WO.start (hB : 1 ≤ Bb) : WO rat good Bb [([good], (1, 1))] 0 where
  h0 := rfl
  nd := by simp
  par := fun i e h hi => by
    have := (List.getElem?_eq_some_iff.mp h).1
    simp at this; omega
  ord := by simp
  cl := fun i e v h => absurd h (Nat.not_lt_zero i)
  ok := fun e he => by
    rw [List.mem_singleton.mp he]
    have h2 : (1 : Nat) < 2 ^ (Bb * 1) := by
      have := Nat.pow_le_pow_right (show 0 < 2 by decide) (show 1 ≤ Bb * 1 by omega)
      omega
    exact ⟨by show (0 : Int) < 1; decide, h2, h2, by simp⟩
  len := fun i e h => by
    have h1 := (List.getElem?_eq_some_iff.mp h).1
    simp at h1; subst h1
    simp at h; subst h; simp
  xl := Nat.zero_le _
theorem WO.add {A : List Ent} {x : Nat} (w : WO rat good Bb A x) {j : Nat} {d : Ent} {v : Str} {r : Rt} {t u : Int} (hj : A[j]? = some d) (hr : rat (endE d) v = some r) (hL : Low (d.2.1 * r.1) (d.2.2 * r.2) t u) (hb : r.1.natAbs < 2 ^ Bb ∧ r.2.natAbs < 2 ^ Bb)
    (hn : v ∉ A.map endE) (ho : ∀ e ∈ A, ahd e.1 (d.1 ++ [v])) : WO rat good Bb (A ++ [(d.1 ++ [v], (t, u))]) x := by
  have h0 := w.h0
  have hp : 0 < A.length := (List.getElem?_eq_some_iff.mp h0).1
  have jl := (List.getElem?_eq_some_iff.mp hj).1
  have dok := w.ok d (List.mem_of_getElem? hj)
  have split : ∀ {i : Nat} {e : Ent}, (A ++ [(d.1 ++ [v], (t, u))])[i]? = some e → (i < A.length ∧ A[i]? = some e) ∨ (i = A.length ∧ e = (d.1 ++ [v], (t, u))) := fun {i e} h => by
    rcases Nat.lt_or_ge i A.length with c | c
    · rw [List.getElem?_append_left c] at h; exact .inl ⟨c, h⟩
    · rw [List.getElem?_append_right c] at h
      have h1 := (List.getElem?_eq_some_iff.mp h).1
      have e1 : i = A.length := by simp at h1; omega
      subst e1
      simp at h
      exact .inr ⟨rfl, h.symm⟩
  refine ⟨by rw [List.getElem?_append_left hp]; exact h0, ?_, fun i e h hi => ?_, ?_, fun i e v' hi h hv => ?_, fun e he => ?_, fun i e h => ?_, by have := w.xl; simp; omega⟩
  · rw [List.map_append, List.nodup_append]
    refine ⟨w.nd, by simp, fun a ha c hc => ?_⟩
    simp only [List.map_cons, List.map_nil, List.mem_singleton] at hc
    rw [hc, endE_snoc]
    exact fun z => hn (z ▸ ha)
  · rcases split h with ⟨c, h⟩ | ⟨rfl, rfl⟩
    · obtain ⟨j', d', v', r', k1, k2, k3, k4, k5⟩ := w.par i e h hi
      exact ⟨j', d', v', r', k1, by rw [List.getElem?_append_left (by omega)]; exact k2, k3, k4, k5⟩
    · exact ⟨j, d, v, r, jl, by rw [List.getElem?_append_left jl]; exact hj, hr, rfl, hL⟩
  · rw [List.pairwise_append]
    refine ⟨w.ord, by simp, fun a ha b hb => ?_⟩
    rw [List.mem_singleton.mp hb]
    exact ho a ha
  · rcases split h with ⟨c, h⟩ | ⟨e1, rfl⟩
    · obtain ⟨d', h1, h2, h3⟩ := w.cl i e v' hi h hv
      exact ⟨d', List.mem_append_left _ h1, h2, h3⟩
    · have := w.xl; omega
  · rcases List.mem_append.mp he with he | he
    · exact w.ok e he
    · rw [List.mem_singleton.mp he]
      have l1 : (d.1 ++ [v]).length = d.1.length + 1 := by simp
      have e1 : Bb * (d.1.length + 1) = Bb * d.1.length + Bb := by rw [Nat.mul_succ]
      refine ⟨hL.pos, ?_, ?_, by simp⟩
      · show t.natAbs < 2 ^ (Bb * (d.1 ++ [v]).length)
        rw [l1, e1]
        exact Nat.lt_of_le_of_lt hL.ht (bits_mul dok.b1 hb.1)
      · show u.natAbs < 2 ^ (Bb * (d.1 ++ [v]).length)
        rw [l1, e1]
        exact Nat.lt_of_le_of_lt hL.hu (bits_mul dok.b2 hb.2)
  · rcases split h with ⟨c, h⟩ | ⟨rfl, rfl⟩
    · exact w.len i e h
    · have := w.len j d hj
      simp; omega
theorem WO.more {A : List Ent} {x : Nat} (w : WO rat good Bb A x) {e : Ent} (he : A[x]? = some e) (h : ∀ v, rat (endE e) v ≠ none → ∃ d ∈ A, endE d = v ∧ ¬ ahd (e.1 ++ [v]) d.1) : WO rat good Bb A (x + 1) :=
  { w with
    cl := fun i e' v hi h' hv => by
      rcases Nat.lt_or_ge i x with c | c
      · exact w.cl i e' v c h' hv
      · have : i = x := by omega
        subst this
        rw [he] at h'; cases h'
        exact h v hv
    xl := (List.getElem?_eq_some_iff.mp he).1 }
structure IW (rat : Str → Str → Option Rt) (good : Str) (Bb : Nat) (O N : List Ent) (f c l : Nat) (p : Ent) (T : List Str) : Prop where
  wo : WO rat good Bb (O ++ N) (f + c)
  at_ : O[f + c]? = some p
  lp : p.1.length = l
  lo : ∀ e ∈ O, e.1.length ≤ l
  new : ∀ e ∈ N, ∃ (q : List Str) (u : Str), e.1 = q ++ [u] ∧ q.length = l ∧ (chLt q p.1 = true ∨ (q = p.1 ∧ u ∈ T))
  done : ∀ v ∈ T, rat (endE p) v ≠ none → ∃ d ∈ O ++ N, endE d = v ∧ ¬ ahd (p.1 ++ [v]) d.1
theorem endE_of {e : Ent} {q : List Str} {u : Str} (h : e.1 = q ++ [u]) : endE e = u := by unfold endE; rw [h]; simp
theorem IW.seen {O N : List Ent} {f c l : Nat} {p : Ent} {T : List Str} (I : IW rat good Bb O N f c l p T) {v : Str} (hv : v ∈ (O ++ N).map endE) : IW rat good Bb O N f c l p (T ++ [v]) :=
  { I with
    new := fun e he => by
      obtain ⟨q, u, h1, h2, h3⟩ := I.new e he
      exact ⟨q, u, h1, h2, h3.imp id fun ⟨a, b⟩ => ⟨a, List.mem_append_left _ b⟩⟩
    done := fun w hw hr => by
      rcases List.mem_append.mp hw with hw | hw
      · exact I.done w hw hr
      · have := List.mem_singleton.mp hw
        subst this
        obtain ⟨d, hd, rfl⟩ := List.mem_map.mp hv
        refine ⟨d, hd, rfl, fun z => ?_⟩
        rcases List.mem_append.mp hd with hd | hd
        · have h1 := I.lo d hd
          rcases z with z | ⟨z, _⟩ <;> (rw [List.length_append, I.lp] at z; simp at z; omega)
        · obtain ⟨q, u, h1, h2, h3⟩ := I.new d hd
          have eu := endE_of h1
          rcases z with z | ⟨_, z⟩
          · rw [h1, List.length_append, List.length_append, I.lp, h2] at z; simp at z
          · rw [h1, eu] at z
            rcases h3 with h3 | ⟨h3, _⟩
            · have := chLt_as (chLt_par (u := u) (v := u) (h2.trans I.lp.symm) h3)
              rw [this] at z; cases z
            · rw [h3, chLt_irr] at z; cases z }
theorem IW.put {O N : List Ent} {f c l : Nat} {p : Ent} {T : List Str} (I : IW rat good Bb O N f c l p T) {v : Str} (hv : v ∉ (O ++ N).map endE) (hT : ∀ u ∈ T, leStr u v = true) {r : Rt} {t u : Int} (hr : rat (endE p) v = some r) (hL : Low (p.2.1 * r.1) (p.2.2 * r.2) t u) (hb : r.1.natAbs < 2 ^ Bb ∧ r.2.natAbs < 2 ^ Bb) :
    IW rat good Bb O (N ++ [(p.1 ++ [v], (t, u))]) f c l p (T ++ [v]) := by
  have fl := (List.getElem?_eq_some_iff.mp I.at_).1
  have before : ∀ e ∈ O ++ N, ahd e.1 (p.1 ++ [v]) := fun e he => by
    rcases List.mem_append.mp he with he' | he'
    · have := I.lo e he'
      exact .inl (by rw [List.length_append, I.lp]; simp; omega)
    · obtain ⟨q, w, h1, h2, h3⟩ := I.new e he'
      refine .inr ⟨by rw [h1, List.length_append, List.length_append, I.lp, h2]; rfl, ?_⟩
      rw [h1]
      rcases h3 with h3 | ⟨h3, h4⟩
      · exact chLt_par (h2.trans I.lp.symm) h3
      · rw [h3]
        refine chLt_last ?_
        have hle := hT w h4
        have hne : w ≠ v := fun z => hv (List.mem_map.mpr ⟨e, he, by rw [endE_of h1, z]⟩)
        rcases OrdL.tri (α := Str) w v hne with k | k
        · exact k
        · exfalso
          have k' : v.cps.toList < w.cps.toList := by simpa using (show decide (v.cps.toList < w.cps.toList) = true from k)
          have hle' : w.cps.toList ≤ v.cps.toList := by simpa [leStr] using hle
          exact hle' k'
  have w2 := I.wo.add (j := f + c) (d := p) (by rw [List.getElem?_append_left fl]; exact I.at_) hr hL hb hv before
  rw [List.append_assoc] at w2
  refine ⟨w2, I.at_, I.lp, I.lo, fun e he => ?_, fun w hw hr' => ?_⟩
  · rcases List.mem_append.mp he with he | he
    · obtain ⟨q, w, h1, h2, h3⟩ := I.new e he
      exact ⟨q, w, h1, h2, h3.imp id fun ⟨a, b⟩ => ⟨a, List.mem_append_left _ b⟩⟩
    · rw [List.mem_singleton.mp he]
      exact ⟨p.1, v, rfl, I.lp, .inr ⟨rfl, List.mem_append_right _ (List.mem_singleton.mpr rfl)⟩⟩
  · rcases List.mem_append.mp hw with hw | hw
    · obtain ⟨d, h1, h2, h3⟩ := I.done w hw hr'
      exact ⟨d, by rw [← List.append_assoc]; exact List.mem_append_left _ h1, h2, h3⟩
    · have := List.mem_singleton.mp hw
      subst this
      refine ⟨(p.1 ++ [w], (t, u)), by simp, endE_snoc, fun z => ?_⟩
      rcases z with z | ⟨_, z⟩
      · exact Nat.lt_irrefl _ z
      · rw [chLt_irr] at z; cases z
structure LW (rat : Str → Str → Option Rt) (good : Str) (Bb : Nat) (F Q N : List Ent) (c l : Nat) : Prop where
  wo : WO rat good Bb (F ++ Q ++ N) (F.length + c)
  lo : ∀ e ∈ F ++ Q, e.1.length ≤ l
  lq : ∀ e ∈ Q, e.1.length = l
  new : ∀ e ∈ N, ∃ (q : List Str) (u : Str), e.1 = q ++ [u] ∧ q.length = l ∧ ∃ d ∈ Q.take c, d.1 = q
theorem LW.open_ {F Q N : List Ent} {c l : Nat} (L : LW rat good Bb F Q N c l) {p : Ent} (hp : Q[c]? = some p) : IW rat good Bb (F ++ Q) N F.length c l p [] := by
  have at_ : (F ++ Q)[F.length + c]? = some p := by rw [List.getElem?_append_right (by omega)]; simpa using hp
  refine ⟨L.wo, at_, L.lq p (List.mem_of_getElem? hp), L.lo, fun e he => ?_, fun v hv => nomatch hv⟩
  obtain ⟨q, u, h1, h2, d, hd, h3⟩ := L.new e he
  refine ⟨q, u, h1, h2, .inl ?_⟩
  obtain ⟨i, hi, hd⟩ := List.mem_iff_getElem.mp hd
  have hic : i < c := by rw [List.length_take] at hi; omega
  have hcl := (List.getElem?_eq_some_iff.mp hp).1
  have e1 : Q[i]'(by omega) = d := by rw [← hd]; simp
  have pw := L.wo.ord
  rw [List.pairwise_append] at pw
  have pw := pw.1
  rw [List.pairwise_append] at pw
  have pw := List.pairwise_iff_getElem.mp pw.2.1 i c (by omega) hcl hic
  have e2 : Q[c] = p := (List.getElem?_eq_some_iff.mp hp).2
  rw [e1, e2] at pw
  have l1 := L.lq d (e1 ▸ List.getElem_mem _)
  have l2 := L.lq p (List.mem_of_getElem? hp)
  rcases pw with z | ⟨_, z⟩
  · omega
  · rw [← h3]; exact z
theorem IW.close {F Q N : List Ent} {c l : Nat} {p : Ent} {T : List Str} (lq : ∀ e ∈ Q, e.1.length = l) (old : ∀ e ∈ N, ∃ (q : List Str) (u : Str), e.1 = q ++ [u] ∧ q.length = l ∧ ∃ d ∈ Q.take (c + 1), d.1 = q) (I : IW rat good Bb (F ++ Q) N F.length c l p T) (hT : ∀ v, rat (endE p) v ≠ none → v ∈ T) : LW rat good Bb F Q N (c + 1) l := by
  have fl := (List.getElem?_eq_some_iff.mp I.at_).1
  refine ⟨?_, I.lo, lq, old⟩
  rw [← Nat.add_assoc]
  exact I.wo.more (by rw [List.getElem?_append_left fl]; exact I.at_) fun v hv => I.done v (hT v hv) hv
theorem LW.next {F Q N : List Ent} {l : Nat} (L : LW rat good Bb F Q N Q.length l) : LW rat good Bb (F ++ Q) N [] 0 (l + 1) := by
  refine ⟨by rw [List.append_nil, List.length_append, Nat.add_zero]; exact L.wo, fun e he => ?_, fun e he => ?_, fun e he => nomatch he⟩
  · rcases List.mem_append.mp he with he | he
    · have := L.lo e he; omega
    · obtain ⟨q, u, h1, h2, _⟩ := L.new e he
      rw [h1]; simp; omega
  · obtain ⟨q, u, h1, h2, _⟩ := L.new e he
    rw [h1]; simp; omega
theorem WO.lwstart (hB : 1 ≤ Bb) : LW rat good Bb [] [([good], (1, 1))] [] 0 1 :=
  ⟨WO.start hB, (fun e he => by have : e = ([good], (1, 1)) := by simpa using he
                                rw [this]; simp), (fun e he => by rw [List.mem_singleton.mp he]; rfl), fun e he => nomatch he⟩
end
def ratW (r : Rt) : W := .tup [.int r.1, .int r.2]
section
variable {κ κ' α β : Type} [DecidableEq κ] [DecidableEq κ']
theorem dGet_mk {f : κ → κ'} {h : α → β} (inj : ∀ a b, f a = f b → a = b) {l : List (κ × α)} {k : κ} : dGet (l.map fun p => (f p.1, h p.2)) (f k) = (dGet l k).map h := by
  induction l with
  | nil => rfl
  | cons p l ih =>
    rw [List.map_cons, dGet_cons, dGet_cons, ih]
    by_cases e : p.1 = k
    · rw [if_pos e, if_pos (by rw [e])]; rfl
    · rw [if_neg e, if_neg (fun z => e (inj _ _ z))]
theorem dPut_mk {f : κ → κ'} {h : α → β} (inj : ∀ a b, f a = f b → a = b) {l : List (κ × α)} {k : κ} {v : α} : dPut (l.map fun p => (f p.1, h p.2)) (f k) (h v) = (dPut l k v).map fun p => (f p.1, h p.2) := by
  unfold dPut
  rw [any_dGet, any_dGet, dGet_mk inj, Option.isSome_map]
  split
  · rw [List.map_map, List.map_map]
    refine List.map_congr_left fun p _ => ?_
    simp only [Function.comp]
    by_cases e : p.1 = k
    · rw [if_pos e, if_pos (by rw [e])]
    · rw [if_neg e, if_neg (fun z => e (inj _ _ z))]
  · simp
end
abbrev PM := List ((Str × Str) × Rt)
def keyP (p : Str × Str) : List Key := [.inr p.1, .inr p.2]
theorem keyP_inj : ∀ a b, keyP a = keyP b → a = b := fun a b h => by
  simp only [keyP, List.cons.injEq, Sum.inr.injEq, and_true] at h
  exact Prod.ext h.1 h.2
def kvM (M : PM) : List (List Key × W) := M.map fun p => (keyP p.1, ratW p.2)
theorem kvM_get {M : PM} {p : Str × Str} : dGet (kvM M) (keyP p) = (dGet M p).map ratW := dGet_mk keyP_inj
theorem kvM_put {M : PM} {p : Str × Str} {r : Rt} : dPut (kvM M) (keyP p) (ratW r) = kvM (dPut M p r) := dPut_mk keyP_inj
theorem kvM_len {M : PM} : (kvM M).length = M.length := by simp [kvM]
section
variable {g : G} {a : Addr} {lk neg : Bool} {M : PM} {u v : Str} {q : VK3}
theorem in_pm (h : g a = some (.dit lk (kvM M))) (hq : q (.bl (xor neg (dGet M (u, v)).isSome)) g) : inS neg (.tup [.str u, .str v]) (.ref a) g q := by
  simp only [inS, h, dicAt, toKeys, toKey, Option.bind_some, Option.map_some]
  have := kvM_get (M := M) (p := (u, v))
  unfold keyP at this
  rw [this, Option.isSome_map]; exact hq
theorem ix_pm (h : g a = some (.dit lk (kvM M))) {r : Rt} (e : dGet M (u, v) = some r) (hq : q (ratW r) g) : ixS (.ref a) (.tup [.str u, .str v]) g q := by
  simp only [ixS, h, dicAt, toKeys, toKey, Option.bind_some, Option.map_some]
  have := kvM_get (M := M) (p := (u, v))
  unfold keyP at this
  rw [this, e]
  exact ⟨_, rfl, hq⟩
theorem put_pm {r : Rt} {K : G → Prop} (h : g a = some (.dit false (kvM M))) (hl : M.length ≤ 100000) (hK : K (gup g a (.dit false (kvM (dPut M (u, v) r))))) : putS (.ref a) (.tup [.str u, .str v]) (ratW r) g K := by
  simp only [putS, h, toKeys, toKey, Option.bind_some, Option.map_some]
  refine ⟨small_line (by rw [kvM_len]; exact hl), ?_⟩
  have := kvM_put (M := M) (p := (u, v)) (r := r)
  unfold keyP at this
  rw [this]; exact hK
end
abbrev SDt := List (Str × (Addr × List (Str × Rt)))
def rowS (D : SDt) : List (Key × W) := D.map fun e => (Sum.inr e.1, W.ref e.2.1)
def kvR (S : List (Str × Rt)) : List (Key × W) := S.map fun s => (Sum.inr s.1, ratW s.2)
theorem inr_inj : ∀ a b : Str, (Sum.inr a : Key) = .inr b → a = b := fun a b h => Sum.inr.inj h
theorem rowS_get {D : SDt} {u : Str} : dGet (rowS D) (.inr u) = (dGet D u).map fun r => W.ref r.1 := dGet_mk (f := (Sum.inr : Str → Key)) (h := fun r : Addr × List (Str × Rt) => W.ref r.1) inr_inj
theorem kvR_get {S : List (Str × Rt)} {v : Str} : dGet (kvR S) (.inr v) = (dGet S v).map ratW := dGet_mk (f := (Sum.inr : Str → Key)) inr_inj
theorem kvR_put {S : List (Str × Rt)} {v : Str} {r : Rt} : dPut (kvR S) (.inr v) (ratW r) = kvR (dPut S v r) := dPut_mk (f := (Sum.inr : Str → Key)) inr_inj
def ratD (D : SDt) (u v : Str) : Option Rt := (dGet D u).bind fun r => dGet r.2 v
theorem nd_get {κ α : Type} [DecidableEq κ] {l : List (κ × α)} (nd : (l.map (·.1)).Nodup) {p : κ × α} (h : p ∈ l) : dGet l p.1 = some p.2 := by
  induction l with
  | nil => cases h
  | cons z l ih =>
    rw [List.map_cons, List.nodup_cons] at nd
    rw [dGet_cons]
    rcases List.mem_cons.mp h with e | h
    · subst e; rw [if_pos rfl]
    · have : z.1 ≠ p.1 := fun e => nd.1 (List.mem_map.mpr ⟨p, h, e.symm⟩)
      rw [if_neg this]; exact ih nd.2 h
theorem nd_put {κ α : Type} [DecidableEq κ] {l : List (κ × α)} {k : κ} {v : α} (nd : (l.map (·.1)).Nodup) : ((dPut l k v).map (·.1)).Nodup := by
  rw [dPut_keys]
  split
  · exact nd
  · rename_i h
    rw [List.nodup_append]
    refine ⟨nd, by simp, fun a ha c hc => ?_⟩
    rw [List.mem_singleton.mp hc]
    intro z
    subst z
    obtain ⟨p, hp, e⟩ := List.mem_map.mp ha
    have := nd_get nd hp
    rw [e] at this
    rw [this] at h; simp at h
structure SD (g : G) (pd : Addr) (D : SDt) : Prop where
  at_ : g pd = some (.dic false (rowS D))
  row : ∀ u r, dGet D u = some r → g r.1 = some (.dic false (kvR r.2))
  inj : ∀ u u' r r', dGet D u = some r → dGet D u' = some r' → r.1 = r'.1 → u = u'
  ne : ∀ u r, dGet D u = some r → r.1 ≠ pd
  nd : (D.map (·.1)).Nodup
structure SF (g0 g : G) (pd : Addr) (D : SDt) : Prop where
  x : Ext g0 g
  p : g0 pd = none
  r : ∀ u r, dGet D u = some r → g0 r.1 = none
theorem SD.tr {g g' : G} {pd : Addr} {D : SDt} (h : SD g pd D) (h1 : g' pd = g pd) (h2 : ∀ u r, dGet D u = some r → g' r.1 = g r.1) : SD g' pd D :=
  ⟨h1.trans h.at_, fun u r e => (h2 u r e).trans (h.row u r e), h.inj, h.ne, h.nd⟩
theorem SD.ext {g g' : G} {pd : Addr} {D : SDt} (h : SD g pd D) (x : Ext g g') : SD g' pd D :=
  h.tr ((x _ _ h.at_).trans h.at_.symm) fun u r e => (x _ _ (h.row u r e)).trans (h.row u r e).symm
theorem isDic_s {g : G} {a : Addr} {lk : Bool} {kvs : List (Key × W)} (h : g a = some (.dic lk kvs)) : isDic (.ref a) g := by simp [isDic, h]
theorem dget_s {g : G} {a : Addr} {lk : Bool} {kvs : List (Key × W)} {u : Str} {d : W} {q : VK3} (h : g a = some (.dic lk kvs)) (hq : q ((dGet kvs (.inr u)).getD d) g) : dgetS (.ref a) (.str u) d g q := by
  simp only [dgetS, dicAt, h, toKey]
  exact hq
theorem ix_s {g : G} {a : Addr} {lk : Bool} {kvs : List (Key × W)} {t : Str} {v : W} {q : VK3} (h : g a = some (.dic lk kvs)) (e : dGet kvs (.inr t) = some v) (hq : q v g) : ixS (.ref a) (.str t) g q := by
  simp only [ixS, h, dicAt, toKey]
  exact ⟨v, e, hq⟩
theorem put_s {g : G} {a : Addr} {kvs : List (Key × W)} {t : Str} {v : W} {K : G → Prop} (h : g a = some (.dic false kvs)) (hl : kvs.length ≤ 100000) (hK : K (gup g a (.dic false (dPut kvs (.inr t) v)))) : putS (.ref a) (.str t) v g K := by
  simp only [putS, h, toKey]
  exact ⟨small_line hl, hK⟩
theorem in_s {g : G} {a : Addr} {lk neg : Bool} {kvs : List (Key × W)} {t : Str} {q : VK3} (h : g a = some (.dic lk kvs)) (hq : q (.bl (xor neg (dGet kvs (.inr t)).isSome)) g) : inS neg (.str t) (.ref a) g q := by
  simp only [inS, h, dicAt, toKey]
  exact hq
theorem sort_s {g : G} {a : Addr} {lk : Bool} {S : List (Str × Rt)} {q : VK3} (h : g a = some (.dic lk (kvR S))) (hq : newL g ((srt (S.map (·.1))).map W.str) q) : sortedS3 [.ref a] g q := by
  simp only [sortedS3, h]
  have e : (kvR S).map (fun p => kW p.1) = (S.map (·.1)).map W.str := by simp [kvR, kW, Function.comp_def]
  rw [e]
  exact sort_strs hq
theorem ratD_put {D : SDt} {u v : Str} {a : Addr} {S : List (Str × Rt)} {r : Rt} (h : (dGet D u = some (a, S)) ∨ (dGet D u = none ∧ S = [])) (x y : Str) : ratD (dPut D u (a, dPut S v r)) x y = if x = u ∧ y = v then some r else ratD D x y := by
  unfold ratD
  rw [dGet_put]
  by_cases c : x = u
  · rw [if_pos c]
    subst c
    simp only [Option.bind_some, dGet_put]
    by_cases c2 : y = v
    · rw [if_pos c2, if_pos ⟨trivial, c2⟩]
    · rw [if_neg c2, if_neg (fun z => c2 z.2)]
      rcases h with h | ⟨h, h2⟩
      · rw [h]; rfl
      · rw [h, h2]; rfl
  · rw [if_neg c, if_neg (fun z => c z.1)]
theorem wdE (e : Ent) : (WD.w e : W) = .tup [.lv (e.1.map W.str), .tup [.int e.2.1, .int e.2.2]] := rfl
theorem WO.bound {rat : Str → Str → Option Rt} {good : Str} {Bb : Nat} {A : List Ent} {x : Nat} (w : WO rat good Bb A x) {Vs : List Str} (hV : ∀ u v, rat u v ≠ none → v ∈ Vs) : A.length ≤ Vs.length + 1 := by
  have := nd_sub (L := good :: Vs) w.nd fun y hy => by
    obtain ⟨e, he, rfl⟩ := List.mem_map.mp hy
    obtain ⟨i, hi, e1⟩ := List.mem_iff_getElem.mp he
    have e2 : A[i]? = some e := by rw [List.getElem?_eq_getElem hi, e1]
    rcases Nat.eq_zero_or_pos i with z | z
    · subst z
      rw [w.h0] at e2; cases e2
      exact List.mem_cons_self
    · obtain ⟨j, d, v, r, _, _, h3, h4, _⟩ := w.par i e e2 z
      rw [endE_of h4]
      exact List.mem_cons_of_mem _ (hV _ _ (by rw [h3]; simp))
  simpa using this
theorem last_of {e : Ent} (h : e.1 ≠ []) : ∃ q, e.1 = q ++ [endE e] := by
  obtain ⟨q, y, hy⟩ := List.eq_nil_or_concat e.1 |>.resolve_left h
  rw [List.concat_eq_append] at hy
  exact ⟨q, by rw [endE_of hy]; exact hy⟩
theorem last_ix {α : Type} {xs : List α} {v : α} : atI (xs ++ [v]) (-1) = some v := by
  unfold atI ixN
  rw [if_neg (by decide), List.length_append, List.length_singleton, if_pos (by omega)]
  show (xs ++ [v])[((-1 : Int) + ((xs.length + 1 : Nat) : Int)).toNat]? = some v
  rw [show ((-1 : Int) + ((xs.length + 1 : Nat) : Int)).toNat = xs.length by omega]
  simp
theorem srt_mem {l : List Str} {x : Str} : x ∈ srt l ↔ x ∈ l := (List.mergeSort_perm l leStr).mem_iff
theorem srt_pw (l : List Str) : (srt l).Pairwise fun a b => leStr a b = true := List.pairwise_mergeSort leStr_trans leStr_total l
theorem dGet_key {S : List (Str × Rt)} {v : Str} (h : dGet S v ≠ none) : v ∈ S.map (·.1) := by
  cases e : dGet S v with
  | none => exact absurd e h
  | some r => exact List.mem_map.mpr ⟨(v, r), dGet_mem e, rfl⟩
theorem key_dGet {S : List (Str × Rt)} {v : Str} (h : v ∈ S.map (·.1)) : ∃ r, dGet S v = some r := by
  obtain ⟨p, hp, rfl⟩ := List.mem_map.mp h
  exact mem_dGet hp
structure RtOk (Bb : Nat) (r : Rt) : Prop where
  p1 : 0 < r.1
  p2 : 0 < r.2
  cop : Int.gcd r.1 r.2 = 1
  b1 : r.1.natAbs < 2 ^ Bb
  b2 : r.2.natAbs < 2 ^ Bb
theorem c_next {n : Nat} {D : SDt} {good : Str} {Bb l : Nat} {F Q : List Ent} {pd sa : Addr} {Vs : List Str} (hV : ∀ u v, ratD D u v ≠ none → v ∈ Vs) (hVl : Vs.length ≤ 100) (hBb : Bb * (Vs.length + 2) ≤ 4000) (hr : ∀ u v r, ratD D u v = some r → RtOk Bb r) (hDS : ∀ u r, dGet D u = some r → r.2.length ≤ 1000)
    {g : G} {x : XK3} {q : VK3} (sd : SD g pd D) (L0 : LW (ratD D) good Bb F Q [] 0 l) (hs : g sa = some (.dic false (kvS ((F ++ Q).map endE)))) (n1 : sa ≠ pd) (n2 : ∀ u r, dGet D u = some r → r.1 ≠ sa)
    (hq : ∀ (N : List Ent) (g' : G), LW (ratD D) good Bb F Q N Q.length l → g' sa = some (.dic false (kvS ((F ++ Q ++ N).map endE))) → (∀ b o, b ≠ sa → g b = some o → g' b = some o) → q (.lv (N.map WD.w)) g') :
    callF P gl (n + 4) 10 [.ref pd, .lv (Q.map WD.w), .ref sa] g x q := by
  refine u10 ?_
  refine st_of rfl ?_
  walk_at "ss"
  intro p hp
  have nsp : sa ≠ p := ne_free hs hp
  refine st_of rfl ?_
  walk_at "ss"
  refine for_map (f := WD.w) (fun pre post s g1 => ∃ (N : List Ent) (o4 o5 o6 o7 : Option W), LW (ratD D) good Bb F Q N pre.length l ∧ s = [some (.ref pd), some (.lv (Q.map WD.w)), some (.ref sa), some (.ref p), o4, o5, o6, o7] ∧
    g1 sa = some (.dic false (kvS ((F ++ Q ++ N).map endE))) ∧ g1 p = some (.lst (N.map WD.w)) ∧ (∀ b o, b ≠ sa → b ≠ p → g b = some o → g1 b = some o)) ⟨[], none, none, none, none, L0, rfl, by rw [gup_ne nsp, List.append_nil]; exact hs, gup_same, fun b o h1 h2 h3 => by rw [gup_ne h2]; exact h3⟩ ?_ ?_
  · rintro s g1 ⟨N, o4, o5, o6, o7, L, rfl, e1, e2, e3⟩
    refine ⟨trivial, ?_⟩
    walk_at "ss"
    rw [frzS_lst e2]
    refine st_of rfl ?_
    walk_at "ss"
    have := hq N (gdel g1 p) L (by rw [gdel_ne nsp]; exact e1) fun b o h1 h3 => by
      have : b ≠ p := ne_free h3 hp
      rw [gdel_ne this]; exact e3 b o h1 this h3
    first | exact rt_keep this | exact this
  · rintro e pre post s g1 hx ⟨N, o4, o5, o6, o7, L, rfl, e1, e2, e3⟩ K hK
    refine ⟨trivial, ?_⟩
    have hc : Q[pre.length]? = some e := by rw [hx]; simp
    have eok : EntOk Bb e := L.wo.ok e (by rw [List.append_assoc]; exact List.mem_append_right _ (List.mem_append_left _ (List.mem_of_getElem? hc)))
    obtain ⟨q0, eq0⟩ := last_of eok.ne
    have sd1 : SD g1 pd D := sd.tr ((e3 pd _ (Ne.symm n1) (ne_free sd.at_ hp) sd.at_).trans sd.at_.symm) fun u r hu => (e3 r.1 _ (n2 u r hu) (ne_free (sd.row u r hu) hp) (sd.row u r hu)).trans (sd.row u r hu).symm
    have I0 := L.open_ hc
    rw [wdE]
    walk_at "ss"
    refine ⟨rfl, ?_⟩
    refine st_of rfl ?_
    walk_at "ss"
    refine ⟨isDic_s sd1.at_, ?_⟩
    refine ⟨.str (endE e), by
      have : e.1.map W.str = q0.map W.str ++ [.str (endE e)] := by conv => lhs; rw [eq0]
                                                                   simp
      rw [this]; exact last_ix, ?_⟩
    intro p2 hp2
    have x2 := Ext.new (o := .dic false []) hp2
    have sd2 := sd1.ext x2
    have e12 := x2 _ _ e1
    have e22 := x2 _ _ e2
    have e32 : ∀ b o, b ≠ sa → b ≠ p → g b = some o → gup g1 p2 (.dic false []) b = some o := fun b o h1 h2 h3 => x2 _ _ (e3 b o h1 h2 h3)
    refine dget_s sd2.at_ ?_
    rw [rowS_get]
    have body : ∀ (ra : Addr) (S : List (Str × Rt)) (g3 : G) (D0 : Ends3), ra ≠ sa → ra ≠ p → g3 ra = some (.dic false (kvR S)) → g3 sa = some (.dic false (kvS ((F ++ Q ++ N).map endE))) → g3 p = some (.lst (N.map WD.w)) → (∀ b o, b ≠ sa → b ≠ p → g b = some o → g3 b = some o) →
        (∀ v, dGet S v = ratD D (endE e) v) → S.length ≤ 1000 → (∀ s g, K s g → D0.nx s g) →
        svs (callF P gl (n + 3)) gl b10_3 D0 [some (.ref pd), some (.lv (Q.map WD.w)), some (.ref sa), some (.ref p), some (.lv (e.1.map W.str)), some (.tup [.int e.2.1, .int e.2.2]), some (.ref ra), o7] g3 := by
      intro ra S g3 D0 m1 m2 f0 f1 f2 f3 hS hSl hD0
      refine st_of rfl ?_
      walk_at "ss"
      refine sort_s f0 (newF ?_)
      walk_at "ss"
      refine for_map (f := W.str) (fun pre2 post2 s g4 => ∃ (N2 : List Ent) (o7 : Option W), IW (ratD D) good Bb (F ++ Q) N2 F.length pre.length l e pre2 ∧ (∀ m ∈ N2, ∃ (q : List Str) (u : Str), m.1 = q ++ [u] ∧ q.length = l ∧ ∃ d ∈ Q.take (pre.length + 1), d.1 = q) ∧
        s = [some (.ref pd), some (.lv (Q.map WD.w)), some (.ref sa), some (.ref p), some (.lv (e.1.map W.str)), some (.tup [.int e.2.1, .int e.2.2]), some (.ref ra), o7] ∧ g4 ra = some (.dic false (kvR S)) ∧ g4 sa = some (.dic false (kvS ((F ++ Q ++ N2).map endE))) ∧ g4 p = some (.lst (N2.map WD.w)) ∧ (∀ b o, b ≠ sa → b ≠ p → g b = some o → g4 b = some o))
        ⟨N, o7, I0, fun m hm => by
          obtain ⟨q, u, k1, k2, d, k3, k4⟩ := L.new m hm
          refine ⟨q, u, k1, k2, d, ?_, k4⟩
          rw [List.take_add_one, List.mem_append]; exact .inl k3, rfl, f0, f1, f2, f3⟩ ?_ ?_
      · rintro s g4 ⟨N2, o7, I, old, rfl, k0, k1, k2, k3⟩
        refine ⟨trivial, ?_⟩
        refine nl_of (CF := callF P gl (n + 3)) (gl := gl) ?_
        refine hD0 _ _ (hK _ _ ⟨N2, _, _, _, _, ?_, rfl, k1, k2, k3⟩)
        have := I.close L.lq old fun v hv => srt_mem.mpr (dGet_key (by rw [hS]; exact hv))
        rw [List.length_append]; exact this
      · rintro v pre2 post2 s g4 hx2 ⟨N2, o7, I, old, rfl, k0, k1, k2, k3⟩ K2 hK2
        refine ⟨trivial, ?_⟩
        have vm : v ∈ S.map (·.1) := srt_mem.mp (by rw [hx2]; simp)
        obtain ⟨r, er⟩ := key_dGet vm
        have er2 := (hS v).symm.trans er
        have rok := hr _ _ _ er2
        have hNl := I.wo.bound hV
        have hlen : e.1.length ≤ Vs.length + 1 := by
          have h1 := I.wo.len (F.length + pre.length) e (by
            have fl := (List.getElem?_eq_some_iff.mp I.at_).1
            rw [List.getElem?_append_left fl]; exact I.at_)
          have fl := (List.getElem?_eq_some_iff.mp I.at_).1
          rw [List.length_append] at hNl
          omega
        show svs _ _ _ _ [some (.ref pd), some (.lv (Q.map WD.w)), some (.ref sa), some (.ref p), some (.lv (e.1.map W.str)), some (.tup [.int e.2.1, .int e.2.2]), some (.ref ra), some (.str v)] _
        refine st_of rfl ?_
        walk_at "ss"
        refine in_dicS k1 ?_
        walk_at "ss"
        by_cases hv : v ∈ (F ++ Q ++ N2).map endE
        · rw [if_neg (fun z => z hv)]
          walk_at "nl"
          exact hK2 _ _ ⟨N2, _, I.seen hv, old, rfl, k0, k1, k2, k3⟩
        · rw [if_pos hv]
          refine st_of rfl ?_
          walk_at "ss"
          refine put_dicS k1 (by rw [List.length_map]; omega) ?_
          rw [if_neg hv]
          have k2' : gup g4 sa (.dic false (kvS ((F ++ Q ++ N2).map endE ++ [v]))) p = some (.lst (N2.map WD.w)) := by rw [gup_ne (Ne.symm nsp)]; exact k2
          have k0' : gup g4 sa (.dic false (kvS ((F ++ Q ++ N2).map endE ++ [v]))) ra = some (.dic false (kvR S)) := by rw [gup_ne m1]; exact k0
          refine st_of rfl ?_
          walk_at "ss"
          refine ⟨isLst_of k2', ?_⟩
          refine newF ?_
          walk_at "ss"
          refine ⟨sl_le (by simp; omega), newF ?_⟩
          refine ix_s k0' (by rw [kvR_get, er]; rfl) ?_
          have hB1 : Bb * (e.1.length + 1) ≤ Bb * (Vs.length + 2) := Nat.mul_le_mul_left _ (by omega)
          have hB2 : Bb * (e.1.length + 1) = Bb * e.1.length + Bb := Nat.mul_succ _ _
          have i1 : Bt e.2.1 (Bb * e.1.length) := ⟨eok.b1⟩
          have i2 : Bt e.2.2 (Bb * e.1.length) := ⟨eok.b2⟩
          have i3 : Bt r.1 Bb := ⟨rok.b1⟩
          have i4 : Bt r.2 Bb := ⟨rok.b2⟩
          have z1 := eok.pos
          have z2 := rok.p2
          refine c_prod (A := Bb * e.1.length) (B := Bb * e.1.length) (C := Bb) (D := Bb) (by omega) (by omega) (by omega) fun t u hL => ?_
          have hl2 : N2.length ≤ 100000 := by rw [List.length_append] at hNl; omega
          refine app_m (f := WD.w) (x := (e.1 ++ [v], (t, u))) k2' hl2 (by rw [wdE, List.map_append]; rfl) ?_
          refine nl_of ?_
          have npsa : p ≠ sa := Ne.symm nsp
          refine hK2 _ _ ⟨N2 ++ [(e.1 ++ [v], (t, u))], _, I.put hv (fun w hw => ?_) er2 hL ⟨rok.b1, rok.b2⟩, fun m hm => ?_, rfl, ?_, ?_, gup_same, fun b o h1 h2 h3 => ?_⟩
          · have pw := srt_pw (S.map (·.1))
            rw [hx2, List.pairwise_append] at pw
            exact pw.2.2 w hw v List.mem_cons_self
          · rcases List.mem_append.mp hm with hm | hm
            · exact old m hm
            · rw [List.mem_singleton.mp hm]
              refine ⟨e.1, v, rfl, I.lp, e, ?_, rfl⟩
              rw [List.take_add_one, hc, List.mem_append]
              exact .inr (by simp)
          · rw [gup_ne m2]; exact k0'
          · rw [gup_ne nsp, gup_same, ← List.append_assoc, List.map_append (l₁ := F ++ Q ++ N2)]
            simp [endE_snoc]
          · rw [gup_ne h2, gup_ne h1]; exact k3 b o h1 h2 h3
    cases eD : dGet D (endE e) with
    | some ra =>
      simp only [Option.map_some, Option.getD_some]
      have hrow := sd2.row _ _ eD
      have hne2 : ra.1 ≠ p := fun z => by rw [z, e22] at hrow; cases hrow
      exact body ra.1 ra.2 _ _ (n2 _ _ eD) hne2 hrow e12 e22 e32 (fun v => by unfold ratD; rw [eD]; rfl) (hDS _ _ eD) fun s g h => h
    | none =>
      simp only [Option.map_none, Option.getD_none]
      exact body p2 [] _ _ (Ne.symm (ne_free e1 hp2)) (Ne.symm (ne_free e2 hp2)) gup_same e12 e22 e32 (fun v => by unfold ratD; rw [eD]; rfl) (by simp) fun s g h => h
structure All (rat : Str → Str → Option Rt) (good : Str) (Bb : Nat) (A : List Ent) : Prop where
  wo : WO rat good Bb A A.length
theorem c_out {n : Nat} {D : SDt} {good : Str} {Bb : Nat} {pd : Addr} {Vs : List Str} (hB : 1 ≤ Bb) (hV : ∀ u v, ratD D u v ≠ none → v ∈ Vs) (hVl : Vs.length ≤ 100) (hBb : Bb * (Vs.length + 2) ≤ 4000) (hr : ∀ u v r, ratD D u v = some r → RtOk Bb r) (hDS : ∀ u r, dGet D u = some r → r.2.length ≤ 1000)
    {g : G} {x : XK3} {q : VK3} (sd : SD g pd D) (hq : ∀ A : List Ent, WO (ratD D) good Bb A A.length → A.length ≤ 101 → q (.lv (A.map WD.w)) g) : callF P gl (n + 5) 11 [.ref pd, .str good] g x q := by
  refine u11 ?_
  refine st_of rfl ?_
  walk_at "ss"
  intro sa hsa
  have nsp : sa ≠ pd := Ne.symm (ne_free sd.at_ hsa)
  refine ⟨gup_same, .inr good, rfl, ?_⟩
  rw [gup_gup]
  refine st_of rfl ?_
  walk_at "ss"
  refine st_of rfl ?_
  walk_at "ss"
  refine st_of rfl ⟨fun m s g' => ∃ (F Q : List Ent) (l : Nat), m = 2 * (102 - (F ++ Q).length) + (if Q = [] then 0 else 1) ∧ LW (ratD D) good Bb F Q [] 0 l ∧ s = [some (.ref pd), some (.str good), some (.ref sa), some (.lv (F.map WD.w)), some (.lv (Q.map WD.w))] ∧
    Ext g g' ∧ g' sa = some (.dic false (kvS ((F ++ Q).map endE))), ⟨_, [], [([good], (1, 1))], 1, rfl, WO.lwstart hB, rfl, Ext.new hsa, gup_same⟩, ?_⟩
  rintro m s g' ⟨F, Q, l, rfl, L, rfl, xt, es⟩
  have hFQ := L.wo.bound hV
  rw [List.append_nil] at hFQ
  walk_at "ss"
  refine eqS_w (α := List Ent) (x := Q) (y := []) (by decide) ?_
  walk_at "ss"
  by_cases c : Q = []
  · subst c
    rw [if_neg (by simp)]
    refine st_of rfl ?_
    walk_at "ss"
    have w := L.wo
    rw [List.append_nil, List.append_nil, Nat.add_zero] at w
    rw [List.append_nil] at hFQ
    exact rt_drop xt (hq F w (by omega))
  · rw [if_pos c]
    refine st_of rfl ?_
    walk_at "ss"
    refine ⟨sl_le (by rw [List.length_append] at hFQ; simp; omega), newF ?_⟩
    refine st_of rfl ?_
    walk_at "ss"
    have sd' := sd.ext xt
    refine c_next (F := F) hV hVl hBb hr hDS sd' L es nsp (fun u r hu z => by
      have := sd.row u r hu
      rw [z, hsa] at this; cases this) fun N g2 L2 es2 x2 => ?_
    have hN := L2.wo.bound hV
    refine nl_of ?_
    refine ⟨_, ?_, F ++ Q, N, l + 1, rfl, L2.next, by rw [List.map_append], fun a o ha => x2 a o (ne_free ha hsa) (xt a o ha), es2⟩
    rw [if_neg c]
    have e1 : (F ++ Q ++ N).length = (F ++ Q).length + N.length := List.length_append
    by_cases cn : N = []
    · rw [if_pos cn]
      subst cn
      rw [List.append_nil]; omega
    · rw [if_neg cn]
      have : 0 < N.length := List.length_pos_iff.mpr cn
      omega
def parW : Option Str → W
  | none => .non
  | some p => .str p
def cameK (R : List Str) (par : Str → Option Str) : List (Key × W) := R.map fun s => (Sum.inr s, parW (par s))
theorem cameK_get {R : List Str} {par : Str → Option Str} {s : Str} : dGet (cameK R par) (.inr s) = if s ∈ R then some (parW (par s)) else none := by
  induction R with
  | nil => rfl
  | cons a R ih =>
    unfold cameK at ih ⊢
    rw [List.map_cons, dGet_cons]
    by_cases h : a = s
    · subst h; simp
    · rw [if_neg (by simpa using h), ih]
      simp [Ne.symm h]
def setP (par : Str → Option Str) (s : Str) (o : Option Str) : Str → Option Str := fun x => if x = s then o else par x
theorem cameK_put {R : List Str} {par : Str → Option Str} {s t : Str} (h : s ∉ R) : dPut (cameK R par) (.inr s) (.str t) = cameK (R ++ [s]) (setP par s (some t)) := by
  unfold dPut
  rw [any_dGet, cameK_get, if_neg h]
  unfold cameK
  rw [List.map_append]
  simp only [Option.isSome_none, Bool.false_eq_true, if_false]
  congr 1
  · refine List.map_congr_left fun x hx => ?_
    have : x ≠ s := fun z => h (z ▸ hx)
    simp [setP, this]
  · simp [setP, parW]
def Lk (Ps : List (Str × Str)) : List Str → Prop
  | [] => True
  | [_] => True
  | a :: b :: r => (a, b) ∈ Ps ∧ Lk Ps (b :: r)
structure BI (Ps : List (Str × Str)) (good : Str) (R : List Str) (par : Str → Option Str) : Prop where
  nd : R.Nodup
  h0 : R[0]? = some good
  p0 : par good = none
  pr : ∀ (i : Nat) (s : Str), R[i]? = some s → 0 < i → ∃ (j : Nat) (t : Str), j < i ∧ R[j]? = some t ∧ par s = some t ∧ (t, s) ∈ Ps
structure Way (Ps : List (Str × Str)) (good name : Str) (L : List Str) : Prop where
  hd : L.head? = some good
  lst : L.getLast? = some name
  nd : L.Nodup
  lk : Lk Ps L
  one : name = good → L = [good]
theorem get_uniq {R : List Str} (nd : R.Nodup) {i j : Nat} {s : Str} (h1 : R[i]? = some s) (h2 : R[j]? = some s) : i = j := by
  obtain ⟨a1, a2⟩ := List.getElem?_eq_some_iff.mp h1
  obtain ⟨b1, b2⟩ := List.getElem?_eq_some_iff.mp h2
  rcases Nat.lt_trichotomy i j with c | c | c
  · exact absurd (a2.trans b2.symm) (List.pairwise_iff_getElem.mp nd i j a1 b1 c)
  · exact c
  · exact absurd (b2.trans a2.symm) (List.pairwise_iff_getElem.mp nd j i b1 a1 c)
theorem BI.start {Ps : List (Str × Str)} {good : Str} {par : Str → Option Str} (h : par good = none) : BI Ps good [good] par :=
  ⟨by simp, rfl, h, fun i s h hi => by
    have := (List.getElem?_eq_some_iff.mp h).1
    simp at this; omega⟩
theorem BI.add {Ps : List (Str × Str)} {good : Str} {R : List Str} {par : Str → Option Str} (b : BI Ps good R par) {k : Nat} {here v : Str} (hk : R[k]? = some here) (hv : v ∉ R) (hp : (here, v) ∈ Ps) : BI Ps good (R ++ [v]) (setP par v (some here)) := by
  have h0 := b.h0
  have hl : 0 < R.length := (List.getElem?_eq_some_iff.mp h0).1
  have gm : good ∈ R := List.mem_of_getElem? h0
  have kl := (List.getElem?_eq_some_iff.mp hk).1
  refine ⟨?_, ?_, ?_, fun i s h hi => ?_⟩
  · rw [List.nodup_append]
    refine ⟨b.nd, by simp, fun a ha c hc => ?_⟩
    rw [List.mem_singleton.mp hc]
    exact fun z => hv (z ▸ ha)
  · rw [List.getElem?_append_left hl]; exact h0
  · unfold setP
    rw [if_neg (fun z => hv (by rw [← z]; exact gm))]; exact b.p0
  · rcases Nat.lt_or_ge i R.length with c | c
    · rw [List.getElem?_append_left c] at h
      obtain ⟨j, t, h1, h2, h3, h4⟩ := b.pr i s h hi
      refine ⟨j, t, h1, by rw [List.getElem?_append_left (by omega)]; exact h2, ?_, h4⟩
      unfold setP
      rw [if_neg (fun z => hv (by rw [← z]; exact List.mem_of_getElem? h))]; exact h3
    · rw [List.getElem?_append_right c] at h
      have e : i = R.length := by
        have := (List.getElem?_eq_some_iff.mp h).1
        simp at this; omega
      subst e
      simp at h
      subst h
      refine ⟨k, here, kl, by rw [List.getElem?_append_left kl]; exact hk, ?_, hp⟩
      unfold setP; rw [if_pos rfl]
theorem BI.reach {Ps : List (Str × Str)} {good : Str} {R : List Str} {par : Str → Option Str} (b : BI Ps good R par) : ∀ (i : Nat) (s : Str), R[i]? = some s → Reach Ps good s := by
  intro i
  induction i using Nat.strongRecOn with
  | _ i ih =>
    intro s h
    rcases Nat.eq_zero_or_pos i with z | z
    · subst z
      rw [b.h0] at h; cases h; exact .base
    · obtain ⟨j, t, h1, h2, _, h4⟩ := b.pr i s h z
      exact .step (ih j h1 t h2) h4
theorem ix_dicS {g : G} {a : Addr} {lk : Bool} {kvs : List (Key × W)} {t : Str} {v : W} {q : VK3} (h : g a = some (.dic lk kvs)) (e : dGet kvs (.inr t) = some v) (hq : q v g) : ixS (.ref a) (.str t) g q := by
  simp only [ixS, h, dicAt, toKey]
  exact ⟨v, e, hq⟩
theorem c_way {n : Nat} {Ps : List (Str × Str)} {good name : Str} {R : List Str} {par : Str → Option Str} {ca : Addr} {lk : Bool} {i : Nat} (hR : R.length ≤ 5000) {g : G} {x : XK3} {q : VK3} (hc : g ca = some (.dic lk (cameK R par))) (b : BI Ps good R par) (hi : R[i]? = some name)
    (hq : ∀ L : List Str, Way Ps good name L → q (.lv (L.map W.str)) g) : callF P gl (n + 1) 2 [.ref ca, .str name] g x q := by
  refine u2 ?_
  refine st_of rfl ?_
  walk_at "ss"
  intro p hp
  have npc : ca ≠ p := ne_free hc hp
  refine st_of rfl ?_
  walk_at "ss"
  refine ⟨fun j s g' => ∃ (t : Str) (T : List Str), s = [some (.ref ca), some (.str name), some (.ref p)] ∧ g' = gup g p (.lst ((T.reverse ++ [t]).map W.str)) ∧ R[j]? = some t ∧ (t :: T).getLast? = some name ∧ Lk Ps (t :: T) ∧ (t :: T).Nodup ∧ (∀ y ∈ T, ∃ i2, j < i2 ∧ R[i2]? = some y) ∧ (t :: T).length + j ≤ i + 1, ⟨i, name, [], rfl, rfl, hi, rfl, trivial, by simp, by simp, by simp; omega⟩, ?_⟩
  rintro j s g' ⟨t, T, rfl, rfl, hj, hl, hk, hn, hT, hlen⟩
  have il := (List.getElem?_eq_some_iff.mp hi).1
  have tm : t ∈ R := List.mem_of_getElem? hj
  have eg : dGet (cameK R par) (.inr t) = some (parW (par t)) := by rw [cameK_get, if_pos tm]
  have rd : ∀ {q2 : VK3} {xs : List Str}, q2 (.str t) (gup g p (.lst ((T.reverse ++ [t]).map W.str))) → ∃ v, atI ((T.reverse ++ [t]).map W.str) (-1) = some v ∧ q2 v (gup g p (.lst ((T.reverse ++ [t]).map W.str))) := fun {q2 xs} h => ⟨.str t, by rw [List.map_append]; exact last_ix, h⟩
  have hc2 : gup g p (.lst ((T.reverse ++ [t]).map W.str)) ca = some (.dic lk (cameK R par)) := by rw [gup_ne npc]; exact hc
  walk_at "ss"
  refine ⟨.str t, by rw [List.map_append]; exact last_ix, ?_⟩
  refine ix_dicS hc2 eg ?_
  rcases Nat.eq_zero_or_pos j with z | z
  · subst z
    rw [b.h0] at hj; cases hj
    rw [b.p0]
    simp only [parW]
    walk_at "ss"
    rw [gdel_gup hp]
    refine st_of rfl ?_
    walk_at "ss"
    have er : ((T.reverse ++ [good]).map W.str).reverse = (good :: T).map W.str := by simp
    simp only [revS]
    refine newF ?_
    try walk_at "ss"
    rw [er]
    have := hq (good :: T) ⟨rfl, hl, hn, hk, fun e => by
      cases T with
      | nil => rfl
      | cons y T =>
        exfalso
        have : (good :: y :: T).getLast? = some name := hl
        have hm : name ∈ (y :: T) := by
          have := List.mem_of_getLast? (l := y :: T) (a := name) (by simpa using this)
          exact this
        rw [e] at hm
        exact (List.nodup_cons.mp hn).1 hm⟩
    first | exact rt_keep this | exact this
  · obtain ⟨j2, t2, h1, h2, h3, h4⟩ := b.pr j t hj z
    rw [h3]
    simp only [parW]
    walk_at "ss"
    refine st_of rfl ?_
    walk_at "ss"
    refine ⟨isLst_of gup_same, ⟨.str t, by rw [List.map_append]; exact last_ix, ?_⟩⟩
    refine ix_dicS hc2 eg ?_
    rw [h3]
    have hl5 : (t :: T).length ≤ 5001 := by omega
    refine app_m (f := W.str) (x := t2) gup_same (by simp at hl5 ⊢; omega) rfl ?_
    rw [gup_gup]
    refine nl_of ?_
    refine ⟨j2, h1, t2, t :: T, rfl, by simp, h2, by simpa using hl, ⟨h4, hk⟩, ?_, fun y hy => ?_, by simp at hlen ⊢; omega⟩
    · rw [List.nodup_cons]
      refine ⟨fun hm => ?_, hn⟩
      rcases List.mem_cons.mp hm with e | hm
      · subst e
        have := get_uniq b.nd h2 hj; omega
      · obtain ⟨i2, k1, k2⟩ := hT _ hm
        have := get_uniq b.nd h2 k2; omega
    · rcases List.mem_cons.mp hy with e | hy
      · exact ⟨j, h1, by rw [e]; exact hj⟩
      · obtain ⟨i2, k1, k2⟩ := hT y hy
        exact ⟨i2, by omega, k2⟩
theorem fresh_ne2 {g : G} {p p2 : Addr} {o : GO} (h : gup g p o p2 = none) : p2 ≠ p := fun z => by subst z; rw [gup_same] at h; cases h
theorem fresh_of2 {g : G} {p p2 : Addr} {o : GO} (h : gup g p o p2 = none) : g p2 = none := by rw [gup_ne (fresh_ne2 h)] at h; exact h
theorem c_down {n : Nat} {Ps : List (Str × Str)} {D : List RowD} {good : Str} {pd : Addr} {Go : List Str} {gw : W} (hP : Ps.length ≤ 1000) {g : G} {x : XK3} {q : VK3} (hp : PD g pd D Ps)
    (hin : ∀ (y : Str) (g' : G) (q' : VK3), Ext g g' → q' (.bl (decide (y ∈ Go))) g' → inS false (.str y) gw g' q')
    (hnone : (∀ y, Reach Ps good y → y ∉ Go) → q .non g) (hway : ∀ (L : List Str) (name : Str), Way Ps good name L → name ∈ Go → Reach Ps good name → (good ∈ Go → name = good) → q (.lv (L.map W.str)) g) :
    callF P gl (n + 2) 3 [.ref pd, .str good, gw] g x q := by
  refine u3 ?_
  refine st_of rfl ?_
  walk_at "ss"
  intro ca hca
  refine ⟨gup_same, .inr good, rfl, ?_⟩
  rw [gup_gup]
  refine st_of rfl ?_
  walk_at "ss"
  intro ra hra
  have nra := fresh_ne2 hra
  have hra0 := fresh_of2 hra
  refine st_of rfl ?_
  walk_at "ss"
  refine st_of rfl ?_
  walk_at "ss"
  have B0 : ∀ S : List Str, S.Nodup → (∀ x ∈ S, Reach Ps good x) → S.length ≤ (good :: Ps.map (·.2)).length := fun S nd hS => nd_sub nd fun x hx => by
    cases hS x hx with
    | base => exact List.mem_cons_self
    | step _ hm => exact List.mem_cons_of_mem _ (List.mem_map.mpr ⟨_, hm, rfl⟩)
  obtain ⟨B, eB, hB⟩ : ∃ B, (good :: Ps.map (·.2)).length = B ∧ B ≤ 1001 := ⟨_, rfl, by simp; omega⟩
  rw [eB] at B0
  have bound : ∀ {R par}, BI Ps good R par → R.length ≤ B := fun {R par} b => B0 R b.nd fun y hy => by
    obtain ⟨i, h1, h2⟩ := List.mem_iff_getElem.mp hy
    exact b.reach i y (by rw [List.getElem?_eq_getElem h1, h2])
  refine ⟨fun m s g' => ∃ (R : List Str) (par : Str → Option Str) (k : Nat) (o6 o7 : Option W), m = B - k ∧ k ≤ R.length ∧ s = [some (.ref pd), some (.str good), some gw, some (.ref ca), some (.ref ra), some (.int (k : Int)), o6, o7] ∧ Ext g g' ∧ g' ca = some (.dic false (cameK R par)) ∧ g' ra = some (.lst (R.map W.str)) ∧ BI Ps good R par ∧
    (∀ (i : Nat) (u : Str), i < k → R[i]? = some u → u ∉ Go ∧ ∀ v, (u, v) ∈ Ps → v ∈ R), ⟨_, [good], fun _ => none, 0, none, none, rfl, Nat.zero_le _, rfl, (Ext.new hca).trans (Ext.new hra), by rw [gup_ne (Ne.symm nra)]; exact gup_same, gup_same, .start rfl, fun i u h => absurd h (Nat.not_lt_zero i)⟩, ?_⟩
  rintro m s g' ⟨R, par, k, o6, o7, rfl, hk, rfl, xt, ec, er, b, hc⟩
  have hRB := bound b
  walk_at "ss"
  rw [len_m er]
  walk_at "ss"
  by_cases hlt : (k : Int) < (R.length : Nat)
  · rw [if_pos (by simpa using hlt)]
    have hlt : k < R.length := by omega
    obtain ⟨here, eh⟩ : ∃ y, R[k]? = some y := ⟨_, List.getElem?_eq_getElem hlt⟩
    refine st_of rfl ?_
    walk_at "ss"
    refine ix_m er eh ?_
    refine st_of rfl ?_
    walk_at "ss"
    refine hin here g' _ xt ?_
    walk_at "ss"
    have hre := b.reach k here eh
    by_cases hg : here ∈ Go
    · rw [if_pos hg]
      refine st_of rfl ?_
      walk_at "ss"
      refine c_way (by omega) ec b eh fun L w => ?_
      refine rt_drop xt (hway L here w hg hre fun gg => ?_)
      rcases Nat.eq_zero_or_pos k with z | z
      · subst z; rw [b.h0] at eh; cases eh; rfl
      · exact absurd gg (hc 0 good z b.h0).1
    · rw [if_neg hg]
      walk_at "nl"
      refine st_of rfl ?_
      walk_at "ss"
      refine ⟨isDic_of (xt _ _ hp.at_), ?_⟩
      intro p hpn
      have xp := Ext.new (o := .dic false []) hpn
      have gsome : ∀ {a : Addr} {o : GO}, g' a = some o → p ≠ a := fun h z => by subst z; rw [hpn] at h; cases h
      refine dget_dic (xp _ _ (xt _ _ hp.at_)) ?_
      have loop : ∀ (rw_ : Addr) (L : List Str) (g4 : G) (D0 : Ends3), Ext g g4 → g4 ca = some (.dic false (cameK R par)) → g4 ra = some (.lst (R.map W.str)) → g4 rw_ = some (.dic false (kvS L)) → rw_ ≠ ca → rw_ ≠ ra → ¬ lkd g' rw_ → (∀ v, (here, v) ∈ Ps ↔ v ∈ L) →
          (∀ (R2 : List Str) (par2 : Str → Option Str) (o7 : Option W) (g2 : G), Ext g g2 → g2 ca = some (.dic false (cameK R2 par2)) → g2 ra = some (.lst (R2.map W.str)) → BI Ps good R2 par2 → (∃ T, R2 = R ++ T) → (∀ v, (here, v) ∈ Ps → v ∈ R2) →
            D0.nx [some (.ref pd), some (.str good), some gw, some (.ref ca), some (.ref ra), some (.int (k : Int)), some (.str here), o7] g2) →
          keysS (.ref rw_) g4 fun items ok g1 => forI (.name 7) ok (svs (callF P gl (n + 1)) gl b3_8) (unD g' D0) items [some (.ref pd), some (.str good), some gw, some (.ref ca), some (.ref ra), some (.int (k : Int)), some (.str here), o7] g1 := by
        intro rw_ L g4 D0 x4 c4 r4 w4 n1 n2 nlk hL fin
        rw [keys_dic w4, kvS_keys]
        refine for_map (fun pre post s gg => ∃ (R2 : List Str) (par2 : Str → Option Str) (o7 : Option W) (hh : G), gg = gup hh rw_ (.dic true (kvS L)) ∧ s = [some (.ref pd), some (.str good), some gw, some (.ref ca), some (.ref ra), some (.int (k : Int)), some (.str here), o7] ∧ Ext g hh ∧ hh ca = some (.dic false (cameK R2 par2)) ∧ hh ra = some (.lst (R2.map W.str)) ∧ hh rw_ = some (.dic false (kvS L)) ∧ BI Ps good R2 par2 ∧ (∃ T, R2 = R ++ T) ∧ (∀ v ∈ pre, v ∈ R2)) ⟨R, par, o7, g4, rfl, rfl, x4, c4, r4, w4, b, ⟨[], by simp⟩, (fun v hv => nomatch hv)⟩ ?_ ?_
        · rintro s gg ⟨R2, par2, o7, hh, rfl, rfl, q1, q2, q3, q4, q5, q6, q7⟩
          refine ⟨gup_same, .inr ⟨rw_, nlk, .inl ⟨_, gup_same⟩, ?_⟩⟩
          rw [unl_dic gup_same, gup_gup, gup_self q4]
          exact fin R2 par2 o7 hh q1 q2 q3 q5 q6 fun v hv => q7 v ((hL v).mp hv)
        · rintro v pre post s gg hx ⟨R2, par2, o7, hh, rfl, rfl, q1, q2, q3, q4, q5, q6, q7⟩ K hK
          refine ⟨gup_same, ?_⟩
          have hv : (here, v) ∈ Ps := (hL v).mpr (by rw [hx]; simp)
          obtain ⟨T, eT⟩ := q6
          have hk2 : R2[k]? = some here := by rw [eT, List.getElem?_append_left hlt]; exact eh
          have hR2 := bound q5
          have es : gup hh rw_ (.dic true (kvS L)) ca = some (.dic false (cameK R2 par2)) := by rw [gup_ne (Ne.symm n1)]; exact q2
          show svs _ _ _ _ [some (.ref pd), some (.str good), some gw, some (.ref ca), some (.ref ra), some (.int (k : Int)), some (.str here), some (.str v)] _
          refine st_of rfl ?_
          walk_at "ss"
          refine (show ∀ q' : VK3, q' (.bl (xor true (decide (v ∈ R2)))) (gup hh rw_ (.dic true (kvS L))) → inS true (.str v) (.ref ca) (gup hh rw_ (.dic true (kvS L))) q' from fun q' h => by
            simp only [inS, es, dicAt, toKey, cameK_get]
            by_cases c : v ∈ R2
            · rw [if_pos c]; rw [decide_eq_true c] at h; exact h
            · rw [if_neg c]; rw [decide_eq_false c] at h; exact h) _ ?_
          walk_at "ss"
          by_cases hin2 : v ∈ R2
          · rw [if_neg (fun z => z hin2)]
            walk_at "nl"
            refine hK _ _ ⟨R2, par2, _, hh, rfl, rfl, q1, q2, q3, q4, q5, ⟨T, eT⟩, fun y hy => ?_⟩
            rcases List.mem_append.mp hy with hy | hy
            · exact q7 y hy
            · rw [List.mem_singleton.mp hy]; exact hin2
          · rw [if_pos hin2]
            refine st_of rfl ?_
            walk_at "ss"
            refine (show ∀ K' : G → Prop, K' (gup (gup hh rw_ (.dic true (kvS L))) ca (.dic false (cameK (R2 ++ [v]) (setP par2 v (some here))))) → putS (.ref ca) (.str v) (.str here) (gup hh rw_ (.dic true (kvS L))) K' from fun K' h => by
              simp only [putS, es, toKey]
              refine ⟨small_line (by unfold cameK; rw [List.length_map]; omega), ?_⟩
              rw [cameK_put hin2]; exact h) _ ?_
            rw [gup_comm n1]
            have nw : ca ≠ ra := Ne.symm nra
            have ew : gup (gup hh ca (.dic false (cameK (R2 ++ [v]) (setP par2 v (some here))))) rw_ (.dic true (kvS L)) ra = some (.lst (R2.map W.str)) := by rw [gup_ne (Ne.symm n2), gup_ne nra]; exact q3
            refine st_of rfl ?_
            walk_at "ss"
            refine ⟨isLst_of ew, ?_⟩
            refine app_m (f := W.str) (x := v) ew (by omega) rfl ?_
            rw [gup_comm n2]
            refine nl_of ?_
            refine hK _ _ ⟨R2 ++ [v], setP par2 v (some here), _, _, rfl, rfl, (q1.wr hca).wr hra0, by rw [gup_ne nw, gup_same], by rw [gup_same], by rw [gup_ne n2, gup_ne n1]; exact q4, q5.add hk2 hin2 hv, ⟨T ++ [v], by rw [eT]; simp⟩, fun y hy => ?_⟩
            rcases List.mem_append.mp hy with hy | hy
            · exact List.mem_append_left _ (q7 y hy)
            · exact List.mem_append_right _ hy
      have fin : ∀ (R2 : List Str) (par2 : Str → Option Str) (o7 : Option W) (g2 : G), Ext g g2 → g2 ca = some (.dic false (cameK R2 par2)) → g2 ra = some (.lst (R2.map W.str)) → BI Ps good R2 par2 → (∃ T, R2 = R ++ T) → (∀ v, (here, v) ∈ Ps → v ∈ R2) →
          ∃ m', m' < B - k ∧ ∃ (R : List Str) (par : Str → Option Str) (k' : Nat) (o6 o7' : Option W), m' = B - k' ∧ k' ≤ R.length ∧ [some (.ref pd), some (.str good), some gw, some (.ref ca), some (.ref ra), some (.int ((k : Int) + 1)), some (.str here), o7] = [some (.ref pd), some (.str good), some gw, some (.ref ca), some (.ref ra), some (.int (k' : Int)), o6, o7'] ∧ Ext g g2 ∧ g2 ca = some (.dic false (cameK R par)) ∧ g2 ra = some (.lst (R.map W.str)) ∧ BI Ps good R par ∧
            (∀ (i : Nat) (u : Str), i < k' → R[i]? = some u → u ∉ Go ∧ ∀ v, (u, v) ∈ Ps → v ∈ R) := by
        intro R2 par2 o7 g2 a1 a2 a3 a4 ⟨T, eT⟩ a6
        refine ⟨B - (k + 1), by omega, R2, par2, k + 1, _, _, rfl, by rw [eT]; simp; omega, rfl, a1, a2, a3, a4, fun i u hi hu => ?_⟩
        rcases Nat.lt_or_ge i k with c | c
        · rw [eT, List.getElem?_append_left (by omega)] at hu
          obtain ⟨h1, h2⟩ := hc i u c hu
          exact ⟨h1, fun v hv => by rw [eT]; exact List.mem_append_left _ (h2 v hv)⟩
        · have : i = k := by omega
          subst this
          rw [eT, List.getElem?_append_left hlt, eh] at hu
          cases hu
          exact ⟨hg, a6⟩
      rcases rowK_get (D := D) (u := here) with ⟨e, he, e1, e2⟩ | ⟨hno, e2⟩
      · rw [e2]
        have hrow := hp.row e he
        have h3 := xt _ _ hrow
        refine loop e.2.1 e.2.2 _ _ (xt.trans xp) (xp _ _ ec) (xp _ _ er) (xp _ _ h3) (fun z => by rw [z, hca] at hrow; cases hrow) (fun z => by rw [z, hra0] at hrow; cases hrow) ?_ (fun v => ?_) fun R2 par2 o7 g2 a1 a2 a3 a4 a5 a6 => ?_
        · rintro (⟨kk, z⟩ | ⟨kk, z⟩) <;> rw [h3] at z <;> cases z
        · rw [hp.ps]
          refine ⟨fun ⟨e', m1, m2, m3⟩ => ?_, fun m => ⟨e, he, e1, m⟩⟩
          rw [key_uniq hp.nd he m1 (e1.trans m2.symm)]; exact m3
        · refine st_of rfl ?_
          walk_at "ss"
          refine nl_of ?_
          exact fin R2 par2 o7 g2 a1 a2 a3 a4 a5 a6
      · rw [e2]
        refine loop p [] _ _ (xt.trans xp) (xp _ _ ec) (xp _ _ er) gup_same (gsome ec) (gsome er) ?_ (fun v => ?_) fun R2 par2 o7 g2 a1 a2 a3 a4 a5 a6 => ?_
        · rintro (⟨kk, z⟩ | ⟨kk, z⟩) <;> rw [hpn] at z <;> cases z
        · rw [hp.ps]
          refine ⟨fun ⟨e', m1, m2, m3⟩ => absurd m2 (hno e' m1), fun m => nomatch m⟩
        · refine st_of rfl ?_
          walk_at "ss"
          refine nl_of ?_
          exact fin R2 par2 o7 g2 a1 a2 a3 a4 a5 a6
  · rw [if_neg (by simpa using hlt)]
    have hkR : k = R.length := by omega
    have xt2 : Ext g (gdel g' ra) := ext_gdel xt hra0
    walk_at "ss"
    rw [frzS_lst er]
    refine st_of rfl ?_
    walk_at "ss"
    refine rt_drop xt2 (hnone fun y hy => ?_)
    have all : ∀ y, Reach Ps good y → y ∈ R := fun y hy => by
      induction hy with
      | base => exact List.mem_of_getElem? b.h0
      | step _ hm ih =>
        obtain ⟨i, h1, h2⟩ := List.mem_iff_getElem.mp ih
        exact (hc i _ (by omega) (by rw [List.getElem?_eq_getElem h1, h2])).2 _ hm
    obtain ⟨i, h1, h2⟩ := List.mem_iff_getElem.mp (all y hy)
    exact (hc i y (by omega) (by rw [List.getElem?_eq_getElem h1, h2])).1
theorem c_dof {n : Nat} {a b : Int} {g : G} {x : XK3} {q : VK3} (h : q (.int (Int.gcd a b)) g) : callF P gl (n + 1) 25 [.int a, .int b] g x q := by
  refine u25 ?_
  refine st_of rfl (wh (fun s g' => g' = g ∧ ∃ u v : Int, s = [some (.int u), some (.int v)] ∧ Int.gcd u v = Int.gcd a b) (fun s => match s with | [_, some (.int v)] => v.natAbs | _ => 0) ⟨rfl, a, b, rfl, rfl⟩ ?_)
  rintro s g' ⟨rfl, u, v, rfl, e⟩
  walk_at "ss"
  by_cases hv : v = 0
  · subst hv
    rw [if_neg (by simp)]
    refine st_of rfl ?_
    walk_at "ss"
    have e3 : (u.natAbs : Int) = (Int.gcd a b : Int) := by rw [← e, Int.gcd_zero_right]
    rw [e3]
    first | exact rt_keep h | exact h
  · rw [if_pos (by simpa using hv)]
    refine st_of rfl ?_
    walk_at "ss"
    refine mod_of hv ?_
    refine ⟨fmod_lt u hv, rfl, v, u.fmod v, rfl, by rw [gcd_fmod]; exact e⟩
theorem c_lowest {n : Nat} {a b : Int} {A B : Nat} [Bt a A] [Bt b B] (hb : 0 < b) (hB : max A B ≤ 9000) {g : G} {x : XK3} {q : VK3} (h : ∀ t u, Low a b t u → q (.tup [.int t, .int u]) g) : callF P gl (n + 2) 26 [.int a, .int b] g x q := by
  refine u26 ?_
  refine st_of rfl ?_
  walk_at "ss"
  refine c_dof ?_
  have hg : (Int.gcd a b : Int) ≠ 0 := by
    have : Int.gcd a b ≠ 0 := fun z => by rw [Int.gcd_eq_zero_iff] at z; omega
    omega
  have L := low_pos hb (a := a)
  refine st_of rfl ?_
  walk_at "ss"
  refine fd_of (by omega) hB ?_
  refine fd_of (by omega) hB ?_
  first | exact rt_keep (h _ _ L) | exact h _ _ L
theorem low_rt {a b t u : Int} {Bb : Nat} (L : Low a b t u) (ha : 0 < a) (hb : 0 < b) (h1 : a.natAbs < 2 ^ Bb) (h2 : b.natAbs < 2 ^ Bb) : RtOk Bb (t, u) := by
  refine ⟨?_, L.pos, L.cop, Nat.lt_of_le_of_lt L.ht h1, Nat.lt_of_le_of_lt L.hu h2⟩
  have e := L.eq
  have : 0 < t * b := by rw [e]; exact Int.mul_pos ha L.pos
  exact Int.pos_of_mul_pos_left this (by omega)
structure PmOk (L : List Str) (Bb : Nat) (M : PM) : Prop where
  nd : (M.map (·.1)).Nodup
  len : M.length ≤ 100
  ok : ∀ p ∈ M, RtOk Bb p.2
  m1 : ∀ p ∈ M, p.1.1 ∈ L ∧ p.1.2 ∈ L
theorem put_mem2 {κ α : Type} [DecidableEq κ] {l : List (κ × α)} {k : κ} {v : α} {p : κ × α} (h : p ∈ dPut l k v) : p = (k, v) ∨ p ∈ l := by
  unfold dPut at h
  split at h
  · obtain ⟨q, hq, e⟩ := List.mem_map.mp h
    split at e
    · rename_i z; subst e; rw [z]; exact .inl rfl
    · subst e; exact .inr hq
  · rcases List.mem_append.mp h with h | h
    · exact .inr h
    · exact .inl (List.mem_singleton.mp h)
theorem PmOk.put {L : List Str} {Bb : Nat} {M : PM} (o : PmOk L Bb M) (hl : M.length < 100) {u v : Str} {r : Rt} (h1 : u ∈ L) (h2 : v ∈ L) (hr : RtOk Bb r) : PmOk L Bb (dPut M (u, v) r) := by
  refine ⟨nd_put o.nd, ?_, fun p hp => ?_, fun p hp => ?_⟩
  · have := dPut_len (l := M) (k := (u, v)) (v := r); omega
  · rcases put_mem2 hp with e | hp
    · rw [e]; exact hr
    · exact o.ok p hp
  · rcases put_mem2 hp with e | hp
    · rw [e]; exact ⟨h1, h2⟩
    · exact o.m1 p hp
section
variable {rat : Str → Str → Option Rt} {good : Str} {Bb : Nat} {A : List Ent}
theorem WO.uniq (w : WO rat good Bb A A.length) {d e : Ent} (hd : d ∈ A) (he : e ∈ A) (h : endE d = endE e) : d = e := by
  obtain ⟨i, hi, rfl⟩ := List.mem_iff_getElem.mp hd
  obtain ⟨j, hj, rfl⟩ := List.mem_iff_getElem.mp he
  have h1 : (A.map endE)[i]? = some (endE A[i]) := by rw [List.getElem?_map, List.getElem?_eq_getElem hi]; rfl
  have h2 : (A.map endE)[j]? = some (endE A[i]) := by rw [List.getElem?_map, List.getElem?_eq_getElem hj, h]; rfl
  have := (List.getElem?_inj (by simpa using hi) w.nd).mp (h1.trans h2.symm)
  subst this; rfl
theorem WO.first (w : WO rat good Bb A A.length) {e : Ent} (he : e ∈ A) : e = ([good], (1, 1)) ∨ ∃ (d : Ent) (v : Str) (r : Rt), d ∈ A ∧ rat (endE d) v = some r ∧ e.1 = d.1 ++ [v] ∧ Low (d.2.1 * r.1) (d.2.2 * r.2) e.2.1 e.2.2 := by
  obtain ⟨i, hi, rfl⟩ := List.mem_iff_getElem.mp he
  rcases Nat.eq_zero_or_pos i with z | z
  · subst z
    have := w.h0
    rw [List.getElem?_eq_getElem hi] at this
    exact .inl (Option.some.inj this)
  · obtain ⟨j, d, v, r, _, h2, h3, h4, h5⟩ := w.par i _ (List.getElem?_eq_getElem hi) z
    exact .inr ⟨d, v, r, List.mem_of_getElem? h2, h3, h4, h5⟩
theorem WO.lvl (w : WO rat good Bb A A.length) : ∀ (n : Nat) (e : Ent), e ∈ A → e.1.length = n → ∀ k, 1 ≤ k → k ≤ n → ∃ d ∈ A, d.1.length = k
  | 0, _, _, _, k, h1, h2 => by omega
  | n + 1, e, he, hn, k, h1, h2 => by
    rcases Nat.lt_or_ge k (n + 1) with c | c
    · rcases w.first he with z | ⟨d, v, r, hd, _, h4, _⟩
      · subst z; simp at hn; omega
      · refine w.lvl n d hd ?_ k h1 (by omega)
        rw [h4] at hn; simp at hn; omega
    · exact ⟨e, he, by omega⟩
theorem WO.lenA (w : WO rat good Bb A A.length) {e : Ent} (he : e ∈ A) : 1 ≤ e.1.length ∧ e.1.length ≤ A.length := by
  obtain ⟨i, hi, rfl⟩ := List.mem_iff_getElem.mp he
  have h1 := w.len i _ (List.getElem?_eq_getElem hi)
  have h2 := (w.ok _ he).ne
  have : 0 < A[i].1.length := List.length_pos_iff.mpr h2
  omega
end
def rtAt (M : PM) (C : List Str) (k : Nat) : Rt := (dGet M ((C[k]?).getD (Str.ofString ""), (C[k + 1]?).getD (Str.ofString ""))).getD (1, 1)
def alT (M : PM) (C : List Str) : Nat → Rt
  | 0 => (1, 1)
  | k + 1 => ((alT M C k).1 * (rtAt M C k).1, (alT M C k).2 * (rtAt M C k).2)
theorem alT_snoc {M : PM} {C : List Str} {v : Str} : ∀ k, k + 1 ≤ C.length → alT M (C ++ [v]) k = alT M C k
  | 0, _ => rfl
  | k + 1, h => by
    show (((alT M (C ++ [v]) k).1 * (rtAt M (C ++ [v]) k).1, (alT M (C ++ [v]) k).2 * (rtAt M (C ++ [v]) k).2) : Rt) = _
    rw [alT_snoc k (by omega)]
    have : rtAt M (C ++ [v]) k = rtAt M C k := by
      unfold rtAt
      rw [List.getElem?_append_left (by omega), List.getElem?_append_left (by omega)]
    rw [this]; rfl
def Link (M : PM) (C : List Str) : Prop := ∀ k, k + 1 < C.length → ∃ a b r, C[k]? = some a ∧ C[k + 1]? = some b ∧ dGet M (a, b) = some r
structure ChA (M : PM) (good : Str) (e : Ent) : Prop where
  hd : e.1[0]? = some good
  lk : Link M e.1
  eq : e.2.1 * (alT M e.1 (e.1.length - 1)).2 = (alT M e.1 (e.1.length - 1)).1 * e.2.2
  cop : Int.gcd e.2.1 e.2.2 = 1
  pos : 0 < e.2.2
  ap : ∀ k, 0 < (alT M e.1 k).2 ∧ 0 < (alT M e.1 k).1
theorem Low.mul {a b t u c d x y : Int} (h1 : t * b = a * u) (h2 : x * (u * d) = t * c * y) (hu : u ≠ 0) : x * (b * d) = a * c * y := by
  refine Int.eq_of_mul_eq_mul_right hu ?_
  calc x * (b * d) * u = x * (u * d) * b := by simp [Int.mul_comm, Int.mul_left_comm, Int.mul_assoc]
    _ = t * c * y * b := by rw [h2]
    _ = (t * b) * (c * y) := by simp [Int.mul_comm, Int.mul_left_comm, Int.mul_assoc]
    _ = a * u * (c * y) := by rw [h1]
    _ = a * c * y * u := by simp [Int.mul_comm, Int.mul_left_comm, Int.mul_assoc]
section
variable {rat : Str → Str → Option Rt} {good : Str} {Bb : Nat} {A : List Ent} {M : PM} {L : List Str}
theorem rtAt_pos (o : PmOk L Bb M) (hB : 1 ≤ Bb) {C : List Str} {k : Nat} : 0 < (rtAt M C k).1 ∧ 0 < (rtAt M C k).2 ∧ (rtAt M C k).1.natAbs < 2 ^ Bb ∧ (rtAt M C k).2.natAbs < 2 ^ Bb := by
  unfold rtAt
  cases z : dGet M ((C[k]?).getD (Str.ofString ""), (C[k + 1]?).getD (Str.ofString "")) with
  | none =>
    have h2 : (1 : Nat) < 2 ^ Bb := Nat.one_lt_two_pow (by omega)
    exact ⟨by decide, by decide, h2, h2⟩
  | some r =>
    have := o.ok _ (dGet_mem z)
    exact ⟨this.p1, this.p2, this.b1, this.b2⟩
theorem alT_pos (o : PmOk L Bb M) (hB : 1 ≤ Bb) {C : List Str} : ∀ k, (0 < (alT M C k).2 ∧ 0 < (alT M C k).1) ∧ (alT M C k).1.natAbs < 2 ^ (Bb * k + 1) ∧ (alT M C k).2.natAbs < 2 ^ (Bb * k + 1)
  | 0 => ⟨⟨show (0 : Int) < 1 by decide, show (0 : Int) < 1 by decide⟩, by rw [Nat.mul_zero]; show (1 : Nat) < 2 ^ 1; decide, by rw [Nat.mul_zero]; show (1 : Nat) < 2 ^ 1; decide⟩
  | k + 1 => by
    obtain ⟨⟨h1, h2⟩, h3, h4⟩ := alT_pos o hB (C := C) k
    obtain ⟨r1, r2, r3, r4⟩ := rtAt_pos o hB (C := C) (k := k)
    have e : Bb * (k + 1) + 1 = (Bb * k + 1) + Bb := by rw [Nat.mul_succ]; omega
    rw [e]
    exact ⟨⟨Int.mul_pos h1 r2, Int.mul_pos h2 r1⟩, bits_mul h3 r3, bits_mul h4 r4⟩
theorem WO.ch (o : PmOk L Bb M) (hB : 1 ≤ Bb) (hM : ∀ u v, rat u v = dGet M (u, v)) (w : WO rat good Bb A A.length) : ∀ (n : Nat) (e : Ent), e ∈ A → e.1.length = n → ChA M good e
  | 0, e, he, hn => by have := (w.lenA he).1; omega
  | n + 1, e, he, hn => by
    rcases w.first he with z | ⟨d, v, r, hd, h3, h4, h5⟩
    · subst z
      exact ⟨rfl, fun k hk => by simp at hk, rfl, show Int.gcd 1 1 = 1 by decide, by show (0 : Int) < 1; decide, fun k => (alT_pos o hB k).1⟩
    · have hdl : d.1.length = n := by rw [h4] at hn; simp at hn; omega
      have D := w.ch o hB hM n d hd hdl
      have hd1 := (w.lenA hd).1
      obtain ⟨q, hq⟩ := last_of (w.ok d hd).ne
      have el : d.1[n - 1]? = some (endE d) := by
        have : q.length = n - 1 := by rw [hq] at hdl; simp at hdl; omega
        rw [hq, ← this]; simp
      have er : rtAt M e.1 (n - 1) = r := by
        unfold rtAt
        rw [h4, List.getElem?_append_left (by omega), el, List.getElem?_append_right (by omega), show n - 1 + 1 - d.1.length = 0 by omega]
        show (dGet M (endE d, v)).getD (1, 1) = r
        rw [← hM, h3]; rfl
      have ea : alT M e.1 (e.1.length - 1) = ((alT M d.1 (d.1.length - 1)).1 * r.1, (alT M d.1 (d.1.length - 1)).2 * r.2) := by
        have : e.1.length - 1 = (n - 1) + 1 := by omega
        rw [this]
        show (((alT M e.1 (n - 1)).1 * (rtAt M e.1 (n - 1)).1, (alT M e.1 (n - 1)).2 * (rtAt M e.1 (n - 1)).2) : Rt) = _
        rw [er, h4, alT_snoc _ (by omega), hdl]
      refine ⟨?_, fun k hk => ?_, ?_, h5.cop, h5.pos, fun k => (alT_pos o hB k).1⟩
      · rw [h4, List.getElem?_append_left (by omega)]; exact D.hd
      · rw [h4] at hk ⊢
        rw [List.length_append, List.length_singleton] at hk
        rcases Nat.lt_or_ge (k + 1) d.1.length with c | c
        · obtain ⟨a, b, s, k1, k2, k3⟩ := D.lk k c
          exact ⟨a, b, s, by rw [List.getElem?_append_left (by omega)]; exact k1, by rw [List.getElem?_append_left c]; exact k2, k3⟩
        · have : k = n - 1 := by omega
          subst this
          exact ⟨endE d, v, r, by rw [List.getElem?_append_left (by omega)]; exact el, by rw [List.getElem?_append_right (by omega), show n - 1 + 1 - d.1.length = 0 by omega]; rfl, by rw [← hM]; exact h3⟩
      · rw [ea]
        exact Low.mul D.eq h5.eq (by have := D.pos; omega)
end
section
variable {M : PM} {L : List Str} {Bb : Nat} {g : G} {md ca : Addr} {x : XK3} {q : VK3} {n : Nat} {good : Str}
end
open PySem.NumText TL PyProof.Rows
abbrev tls (x : Str) : List Nat := x.cps.toList
theorem tls_app (a b : Str) : tls (a ++ b) = tls a ++ tls b := by
  show (a ++ b).cps.toList = _
  rw [PySem.Str.cps_append, Array.toList_append]
theorem tls_one (c : Nat) : tls ⟨#[c]⟩ = [c] := rfl
theorem tls_len (a : Str) : (tls a).length = a.length := Array.length_toList
theorem in_one {c : Nat} {z : Str} {neg : Bool} {g : G} {q : VK3} (hq : q (.bl (xor neg (decide (c ∈ tls z)))) g) : inS neg (.str ⟨#[c]⟩) (.str z) g q := .inl ⟨c, rfl, hq⟩
theorem ix_str {z : Str} {k c : Nat} {g : G} {q : VK3} (hz : z.length ≤ 100000) (h : (tls z)[k]? = some c) (hq : q (.str ⟨#[c]⟩) g) : ixS (.str z) (.int (k : Int)) g q :=
  ⟨sl_le hz, c, by rw [atI_n]; exact h, hq⟩
def Digs (w : Str) : Prop := ∀ c ∈ tls w, 48 ≤ c ∧ c ≤ 57
instance {w : Str} : Decidable (Digs w) := by unfold Digs; infer_instance
def Lets (w : Str) : Prop := ∀ c ∈ tls w, 97 ≤ c ∧ c ≤ 122
instance {w : Str} : Decidable (Lets w) := by unfold Lets; infer_instance
def nameR (w : Str) : Bool := decide (1 ≤ w.length ∧ w.length ≤ 12 ∧ Lets w)
theorem lets {c : Nat} : c ∈ tls (Str.ofString "abcdefghijklmnopqrstuvwxyz") ↔ 97 ≤ c ∧ c ≤ 122 := by
  have e : tls (Str.ofString "abcdefghijklmnopqrstuvwxyz") = [97, 98, 99, 100, 101, 102, 103, 104, 105, 106, 107, 108, 109, 110, 111, 112, 113, 114, 115, 116, 117, 118, 119, 120, 121, 122] := by decide
  rw [e]
  simp only [List.mem_cons, List.not_mem_nil, or_false]
  omega
theorem lets_split {w : Str} {pre post : List Nat} {c : Nat} (hx : w.cps.toList = pre ++ c :: post) (h : ¬ (97 ≤ c ∧ c ≤ 122)) : ¬ Lets w := fun hd => h (hd c (by show c ∈ w.cps.toList; rw [hx]; simp))
theorem c_isname {n : Nat} {w : Str} (hw : w.length ≤ 5000) {g : G} {x : XK3} {q : VK3} (hq : q (.bl (nameR w)) g) : callF P gl (n + 1) 1 [.str w] g x q := by
  refine u1 ?_
  have bad : ∀ D : Ends3, D.rt = rtS g q → nameR w = false → svs (callF P gl n) gl b1_1 D [some (.str w), none] g := by
    intro D hD h
    rw [h] at hq
    refine st_of rfl ?_
    walk_at "ss"
    rw [hD]
    exact rt_keep hq
  refine st_of rfl ?_
  walk_at "ss"
  refine ⟨sl_le (by omega), ?_⟩
  by_cases c1 : 1 ≤ (w.length : Int)
  · rw [if_pos c1]
    walk_at "ss"
    by_cases c2 : (w.length : Int) ≤ 12
    · rw [if_neg (fun z => z c2)]
      walk_at "nl"
      refine st_of rfl ?_
      walk_at "ss"
      refine for_map (f := fun c : Nat => W.str ⟨#[c]⟩) (fun pre post s g1 => ∃ (o : Option W), (∀ c ∈ pre, 97 ≤ c ∧ c ≤ 122) ∧ s = [some (.str w), o] ∧ g1 = g) ⟨none, by simp, rfl, rfl⟩ ?_ ?_
      · rintro s g1 ⟨o, hd, rfl, rfl⟩
        refine ⟨trivial, ?_⟩
        have e : nameR w = true := decide_eq_true ⟨by omega, by omega, hd⟩
        rw [e] at hq
        refine st_of rfl ?_
        walk_at "ss"
        first | exact rt_keep hq | exact hq
      · rintro c pre post s g1 hx ⟨o, hd, rfl, rfl⟩ K hK
        refine ⟨trivial, ?_⟩
        show svs _ _ _ _ [some (.str w), some (.str ⟨#[c]⟩)] _
        refine st_of rfl ?_
        walk_at "ss"
        refine in_one ?_
        walk_at "ss"
        by_cases h : 97 ≤ c ∧ c ≤ 122
        · rw [if_neg (fun z => z (lets.mpr h))]
          walk_at "nl"
          refine hK _ _ ⟨_, fun d hm => ?_, rfl, rfl⟩
          rcases List.mem_append.mp hm with hm | hm
          · exact hd d hm
          · rw [List.mem_singleton.mp hm]; exact h
        · rw [if_pos (fun z => h (lets.mp z))]
          have e : nameR w = false := decide_eq_false fun z => lets_split hx h z.2.2
          rw [e] at hq
          refine st_of rfl ?_
          walk_at "ss"
          first | exact rt_keep hq | exact hq
    · rw [if_pos c2]
      exact bad _ rfl (decide_eq_false fun z => by omega)
  · rw [if_neg c1]
    walk_at "ss"
    exact bad _ rfl (decide_eq_false fun z => by omega)
def abcL (z : Int) : Nat := 97 + (z.fmod 26).toNat
theorem fm_bd (a : Int) {b : Int} (h : 0 < b) : 0 ≤ a.fmod b ∧ a.fmod b < b := ⟨Int.fmod_nonneg_of_pos a h, Int.fmod_lt_of_pos a h⟩
theorem letterD {z : Int} {g : G} {q : VK3} (hq : q (.str ⟨#[abcL z]⟩) g) : ixS (.str (Str.ofString "abcdefghijklmnopqrstuvwxyz")) (.int (z.fmod 26)) g q := by
  have h := fm_bd z (b := 26) (by decide)
  have e : ∃ k : Nat, k < 26 ∧ z.fmod 26 = (k : Int) := ⟨(z.fmod 26).toNat, by omega, by omega⟩
  obtain ⟨k, hk, ek⟩ := e
  rw [ek]
  have key : ∀ k : Nat, k < 26 → (tls (Str.ofString "abcdefghijklmnopqrstuvwxyz"))[k]? = some (97 + k) := by decide
  refine ⟨by decide, _, by rw [atI_n]; exact key k hk, ?_⟩
  unfold abcL at hq
  rw [ek, Int.toNat_natCast] at hq
  exact hq
theorem cutS_tk {b : Str} (k : Nat) : tls (L2.cutS b none (some (k : Int))) = (tls b).take k := by
  show ((b.cps.toList.drop (HT.sIx b.length 0 none)).take (HT.sIx b.length b.length (some (k : Int)) - HT.sIx b.length 0 none)) = _
  have hl : (tls b).length = b.length := Array.length_toList
  rw [HT.sIx_none, HT.sIx_nat, List.drop_zero, Nat.sub_zero]
  rcases Nat.le_total k b.length with h | h
  · rw [Nat.min_eq_left h]
  · rw [Nat.min_eq_right h, ← hl, List.take_of_length_le (Nat.le_refl _), List.take_of_length_le (by rw [hl]; exact h)]
theorem cutS_dr {b : Str} (k : Nat) : tls (L2.cutS b (some (k : Int)) none) = (tls b).drop k := by
  show ((b.cps.toList.drop (HT.sIx b.length 0 (some (k : Int)))).take (HT.sIx b.length b.length none - HT.sIx b.length 0 (some (k : Int)))) = _
  have hl : (tls b).length = b.length := Array.length_toList
  rw [HT.sIx_none, HT.sIx_nat]
  rcases Nat.le_total k b.length with h | h
  · rw [Nat.min_eq_left h, List.take_of_length_le (by rw [List.length_drop]; show b.cps.toList.length - k ≤ _; rw [show b.cps.toList.length = b.length from hl]; exact Nat.le_refl _)]
  · rw [Nat.min_eq_right h, List.drop_eq_nil_of_le (by show b.cps.toList.length ≤ _; rw [show b.cps.toList.length = b.length from hl]; exact Nat.le_refl _), List.drop_eq_nil_of_le (by rw [hl]; exact h)]
    simp
def nmF (a at_ : Nat) (st : Int) (b core : Str) (k : Nat) : Str := if (a : Int).fmod 3 = 1 then L2.cutS b none (some ((k : Int) + 1)) else if (a : Int).fmod 3 = 2 then L2.cutS b none (some ((k : Int).fmod 11)) ++ ⟨#[abcL ((a : Int).fdiv 7 + (k : Int) * st)]⟩ else L2.cutS core none (some (at_ : Int)) ++ ⟨#[abcL ((a : Int).fdiv 7 + (k : Int) * st)]⟩ ++ L2.cutS core (some (at_ : Int)) none
theorem abcL_b (z : Int) : 97 ≤ abcL z ∧ abcL z ≤ 122 := by
  have := fm_bd z (b := 26) (by decide)
  unfold abcL; omega
theorem nm_k {k : Nat} (h : k < 6) : (k : Int).fmod 11 = (k : Int) := by
  rw [Int.fmod_eq_emod_of_nonneg _ (by decide)]; omega
theorem nameR_of {w : Str} (h : 1 ≤ (tls w).length ∧ (tls w).length ≤ 12) (hl : Lets w) : nameR w = true := by
  rw [tls_len] at h
  exact decide_eq_true ⟨h.1, h.2, hl⟩
theorem nm_name {a at_ sz : Nat} {st : Int} {b core : Str} (hb : b.length = 12) (lb : Lets b) (hc : core = L2.cutS b none (some (sz : Int))) (hsz : sz ≤ 10) {k : Nat} (hk : k < 6) : nameR (nmF a at_ st b core k) = true := by
  have hl : (tls b).length = 12 := by rw [tls_len]; exact hb
  have ht : tls core = (tls b).take sz := by rw [hc, cutS_tk]
  have lc : ∀ c ∈ tls core, 97 ≤ c ∧ c ≤ 122 := fun c h => lb c (by rw [ht] at h; exact List.mem_of_mem_take h)
  have clen : (tls core).length = sz := by rw [ht, List.length_take]; omega
  unfold nmF
  split
  · rw [show ((k : Int) + 1) = ((k + 1 : Nat) : Int) by omega]
    refine nameR_of ?_ fun c h => ?_
    · rw [cutS_tk, List.length_take]; omega
    · rw [cutS_tk] at h; exact lb c (List.mem_of_mem_take h)
  · split
    · rw [nm_k hk]
      refine nameR_of ?_ fun c h => ?_
      · rw [tls_app, cutS_tk, tls_one, List.length_append, List.length_take]; simp only [List.length_cons, List.length_nil]; omega
      · rw [tls_app, cutS_tk, tls_one] at h
        rcases List.mem_append.mp h with h | h
        · exact lb c (List.mem_of_mem_take h)
        · rw [List.mem_singleton.mp h]; exact abcL_b _
    · refine nameR_of ?_ fun c h => ?_
      · rw [tls_app, tls_app, cutS_tk, cutS_dr, tls_one, List.length_append, List.length_append, List.length_take, List.length_drop]; simp only [List.length_cons, List.length_nil]; omega
      · rw [tls_app, tls_app, cutS_tk, cutS_dr, tls_one] at h
        rcases List.mem_append.mp h with h | h
        · rcases List.mem_append.mp h with h | h
          · exact lc c (List.mem_of_mem_take h)
          · rw [List.mem_singleton.mp h]; exact abcL_b _
        · exact lc c (List.mem_of_mem_drop h)
theorem nm_ne {a at_ : Nat} {st : Int} {b core : Str} (hb : b.length = 12) (hst : st ∈ ([1, 3, 5, 7, 9, 11, 15, 17] : List Int)) {i j : Nat} (hi : i < j) (hj : j < 6) : nmF a at_ st b core i ≠ nmF a at_ st b core j := by
  intro e
  have e := congrArg tls e
  have hl : (tls b).length = 12 := by rw [tls_len]; exact hb
  unfold nmF at e
  by_cases c1 : (a : Int).fmod 3 = 1
  · rw [if_pos c1, if_pos c1, show ((i : Int) + 1) = ((i + 1 : Nat) : Int) by omega, show ((j : Int) + 1) = ((j + 1 : Nat) : Int) by omega, cutS_tk, cutS_tk] at e
    have := congrArg List.length e
    rw [List.length_take, List.length_take] at this
    omega
  · rw [if_neg c1, if_neg c1] at e
    by_cases c : (a : Int).fmod 3 = 2
    · rw [if_pos c, if_pos c, nm_k (by omega), nm_k hj, tls_app, tls_app, cutS_tk, cutS_tk, tls_one, tls_one] at e
      have := congrArg List.length e
      rw [List.length_append, List.length_append, List.length_take, List.length_take] at this
      simp only [List.length_cons, List.length_nil] at this
      omega
    · rw [if_neg c, if_neg c, tls_app, tls_app, tls_app, tls_app] at e
      have e := List.append_cancel_left (List.append_cancel_right e)
      have e : [abcL ((a : Int).fdiv 7 + (i : Int) * st)] = [abcL ((a : Int).fdiv 7 + (j : Int) * st)] := e
      injection e with e _
      unfold abcL at e
      generalize (a : Int).fdiv 7 = z at e
      rw [Int.fmod_eq_emod_of_nonneg _ (by decide), Int.fmod_eq_emod_of_nonneg _ (by decide)] at e
      simp only [List.mem_cons, List.not_mem_nil, or_false] at hst
      rcases hst with h | h | h | h | h | h | h | h <;> subst h <;> omega
theorem nm_nd {a at_ m : Nat} {st : Int} {b core : Str} (hb : b.length = 12) (hst : st ∈ ([1, 3, 5, 7, 9, 11, 15, 17] : List Int)) (hm : m ≤ 6) : ((List.range m).map (nmF a at_ st b core)).Nodup := by
  rw [List.nodup_iff_pairwise_ne, List.pairwise_map]
  refine List.Pairwise.imp_of_mem ?_ List.pairwise_lt_range
  intro i j _ h2 h3
  have := List.mem_range.mp h2
  exact nm_ne hb hst h3 (by omega)
theorem c_names {n : Nat} {c : Int} {m : Nat} (hm : 2 ≤ m ∧ m ≤ 6) {g : G} {x : XK3} {q : VK3} (hq : ∀ L : List Str, L.length = m → (∀ w ∈ L, nameR w = true) → L.Nodup → q (.lv (L.map WD.w)) g) : callF P gl (n + 1) 24 [.int c, .int (m : Int)] g x q := by
  refine u24 ?_
  refine st_of rfl ?_
  walk_at "ss"
  obtain ⟨a, ha, ea⟩ := mod_nat c (m := 1000003) (by decide)
  rw [show c.fmod 1000003 = (a : Int) from ea]
  refine st_of rfl ?_
  walk_at "ss"
  refine st_of rfl ?_
  walk_at "ss"
  refine st_of rfl ?_
  walk_at "ss"
  refine ⟨small_len (n := 12) (by decide), ?_⟩
  refine for_rng (n := 12) (fun k s g' => ∃ (b : Str) (o : Option W), b.length = k ∧ Lets b ∧ s = [some (.int c), some (.int (m : Int)), some (.int (a : Int)), some (.str (Str.ofString "abcdefghijklmnopqrstuvwxyz")), some (.str b), o, none, none, none, none, none, none] ∧ g' = g) ⟨Str.ofString "", none, by decide, by decide, rfl, rfl⟩ ?_ ?_
  · rintro s g' ⟨b, o, hb, lb, rfl, rfl⟩
    refine ⟨trivial, ?_⟩
    refine st_of rfl ?_
    walk_at "ss"
    obtain ⟨at_, hat, eat⟩ := mod_nat ((a : Int).fdiv 3) (m := 11) (by decide)
    rw [show ((a : Int).fdiv 3).fmod 11 = (at_ : Int) from eat]
    refine st_of rfl ?_
    walk_at "ss"
    obtain ⟨sz, hsz, esz⟩ := mod_nat ((a : Int).fdiv 40) (m := 11) (by decide)
    rw [show ((a : Int).fdiv 40).fmod 11 = (sz : Int) from esz]
    refine st_of rfl ?_
    walk_at "ss"
    obtain ⟨t, ht, et⟩ := mod_nat ((a : Int).fdiv 500) (m := 8) (by decide)
    rw [show ((a : Int).fdiv 500).fmod 8 = (t : Int) from et]
    refine ix_w (α := Int) (xs := [1, 3, 5, 7, 9, 11, 15, 17]) (get_lt ht) ?_
    obtain ⟨st, est, hstm⟩ : ∃ st : Int, ([1, 3, 5, 7, 9, 11, 15, 17] : List Int)[t]'(by exact ht) = st ∧ st ∈ ([1, 3, 5, 7, 9, 11, 15, 17] : List Int) := ⟨_, rfl, List.getElem_mem _⟩
    have hst2 : 1 ≤ st ∧ st < 18 := by
      have := hstm
      simp only [List.mem_cons, List.not_mem_nil, or_false] at this
      omega
    rw [est]
    refine st_of rfl ?_
    walk_at "ss"
    refine ⟨sl_le (by omega), ?_⟩
    have hcl := L2.cutS_length b none (some (sz : Int))
    obtain ⟨core, hcore⟩ : ∃ core, core = L2.cutS b none (some (sz : Int)) := ⟨_, rfl⟩
    rw [← hcore] at hcl ⊢
    refine st_of rfl ?_
    walk_at "ss"
    intro p hp
    refine st_of rfl ?_
    walk_at "ss"
    refine ⟨small_len (by omega), ?_⟩
    rw [Int.toNat_natCast]
    obtain ⟨F, hF⟩ : ∃ F : Nat → Str, F = nmF a at_ st b core := ⟨_, rfl⟩
    refine for_rng (fun k s g1 => ∃ (U : List Str) (o5 o11 : Option W), U = (List.range k).map F ∧ s = [some (.int c), some (.int (m : Int)), some (.int (a : Int)), some (.str (Str.ofString "abcdefghijklmnopqrstuvwxyz")), some (.str b), o5, some (.int (at_ : Int)), some (.int (sz : Int)), some (.int st), some (.str core), some (.ref p), o11] ∧ g1 = gup g' p (.lst (U.map WD.w))) ⟨[], _, _, rfl, rfl, rfl⟩ ?_ ?_
    · rintro s g1 ⟨U, o5, o11, hU, rfl, rfl⟩
      refine ⟨trivial, ?_⟩
      walk_at "ss"
      rw [gdel_gup hp]
      refine st_of rfl ?_
      walk_at "ss"
      have := hq U (by rw [hU]; simp) (fun w hw => by
        rw [hU, hF] at hw
        obtain ⟨k, hk, rfl⟩ := List.mem_map.mp hw
        exact nm_name hb lb hcore (by omega) (by have := List.mem_range.mp hk; omega)) (by rw [hU, hF]; exact nm_nd hb hstm hm.2)
      first | exact rt_keep this | exact this
    · rintro k s g1 hk ⟨U, o5, o11, hU, rfl, rfl⟩ K hK
      refine ⟨trivial, ?_⟩
      refine st_of rfl ?_
      walk_at "ss"
      refine mul_of (mul_sm (by omega) (by omega)) ?_
      walk_at "ss"
      refine letterD ?_
      generalize hch : abcL ((a : Int).fdiv 7 + (0 + (k : Int)) * st) = ch
      have hUl : U.length = k := by rw [hU]; simp
      have l3 : (⟨#[ch]⟩ : Str).length = 1 := rfl
      refine st_of rfl ?_
      walk_at "ss"
      have fin : ∀ (v : Str), v = F k → ∀ K2 : Ends3, (∀ s g, K s g → K2.nx s g) → appendS (.ref p) [.str v] (gup g' p (.lst (U.map WD.w))) fun _ g1 => K2.nx [some (.int c), some (.int (m : Int)), some (.int (a : Int)), some (.str (Str.ofString "abcdefghijklmnopqrstuvwxyz")), some (.str b), some (.int (0 + (k : Int))), some (.int (at_ : Int)), some (.int (sz : Int)), some (.int st), some (.str core), some (.ref p), some (.str ⟨#[ch]⟩)] g1 := fun v hv K2 hK2 => by
        refine app_m (f := WD.w) (x := v) (xs := U) gup_same (by omega) rfl ?_
        rw [gup_gup]
        exact hK2 _ _ (hK _ _ ⟨U ++ [v], _, _, by rw [hU, hv, List.range_succ, List.map_append]; rfl, rfl, rfl⟩)
      have c1 := L2.cutS_length core none (some (at_ : Int))
      have c2 := L2.cutS_length core (some (at_ : Int)) none
      by_cases c0 : (26 : Int) < (m : Int)
      · omega
      rw [if_neg c0]
      refine st_of rfl ?_
      walk_at "ss"
      by_cases e1 : (a : Int).fmod 3 = 1
      · rw [if_pos e1]
        by_cases e9 : (m : Int) ≤ 12
        · rw [if_pos e9]
          refine st_of rfl ?_
          walk_at "ss"
          refine ⟨isLst_of gup_same, sl_le (n := b.length) (by omega), ?_⟩
          exact fin _ (by simp only [hF, nmF, Int.zero_add]; rw [if_pos e1]) ⟨_, _, _, _, _⟩ fun s g z => z
        · omega
      · rw [if_neg e1]
        refine st_of rfl ?_
        walk_at "ss"
        by_cases e2 : (a : Int).fmod 3 = 2
        · rw [if_pos e2]
          refine st_of rfl ?_
          walk_at "ss"
          have c3 := L2.cutS_length b none (some ((0 + (k : Int)).fmod 11))
          refine ⟨isLst_of gup_same, sl_le (n := b.length) (by omega), sl_le (n := (L2.cutS b none (some ((0 + (k : Int)).fmod 11))).length + (⟨#[ch]⟩ : Str).length) (by omega), ?_⟩
          exact fin _ (by subst hch; simp only [hF, nmF, Int.zero_add]; rw [if_neg e1, if_pos e2]) ⟨_, _, _, _, _⟩ fun s g z => z
        · rw [if_neg e2]
          refine st_of rfl ?_
          walk_at "ss"
          refine ⟨isLst_of gup_same, sl_le (n := core.length) (by omega), sl_le (n := (L2.cutS core none (some (at_ : Int))).length + (⟨#[ch]⟩ : Str).length) (by omega), sl_le (n := core.length) (by omega), sl_le (n := (L2.cutS core none (some (at_ : Int)) ++ ⟨#[ch]⟩).length + (L2.cutS core (some (at_ : Int)) none).length) (by rw [PySem.Str.length_append]; omega), ?_⟩
          exact fin _ (by subst hch; simp only [hF, nmF, Int.zero_add]; rw [if_neg e1, if_neg e2]) ⟨_, _, _, _, _⟩ fun s g z => z
  · rintro k s g' hk ⟨b, o, hb, lb, rfl, rfl⟩ K hK
    refine ⟨trivial, ?_⟩
    refine st_of rfl ?_
    walk_at "ss"
    obtain ⟨y, ey, hy⟩ : ∃ y : Nat, (0 + (k : Int)) * (0 + (k : Int)) = y ∧ y ≤ 144 := ⟨k * k, by simp, Nat.mul_le_mul (show k ≤ 12 by omega) (show k ≤ 12 by omega)⟩
    refine mul_of (mul_sm (by omega) (by omega)) ?_
    rw [ey]
    walk_at "ss"
    refine mul_of (mul_sm (by omega) (by omega)) ?_
    walk_at "ss"
    refine letterD ?_
    generalize hzz : abcL _ = ch
    have hch : 97 ≤ ch ∧ ch ≤ 122 := by rw [← hzz]; exact abcL_b _
    have l3 : (⟨#[ch]⟩ : Str).length = 1 := rfl
    refine ⟨sl_le (n := b.length + (⟨#[ch]⟩ : Str).length) (by omega), ?_⟩
    exact hK _ _ ⟨b ++ ⟨#[ch]⟩, _, by rw [PySem.Str.length_append]; omega, fun d hd => by
      rw [tls_app, tls_one] at hd
      rcases List.mem_append.mp hd with hd | hd
      · exact lb d hd
      · rw [List.mem_singleton.mp hd]; exact hch, rfl, rfl⟩
theorem un_backT {g0 g1 : G} {a : Addr} {kvs : List (List Key × W)} {P : G → Prop} (h0 : g0 a = some (.dit false kvs)) (h1 : g1 a = some (.dit false kvs)) (hq : P g1) : un g0 P (gup g1 a (.dit true kvs)) := by
  refine .inr ⟨a, ?_, .inr ⟨kvs, gup_same⟩, ?_⟩
  · rintro (⟨k, e⟩ | ⟨k, e⟩) <;> rw [h0] at e <;> cases e
  · rw [unl_dit gup_same, gup_gup, gup_eta h1]; exact hq
theorem un_backX {g0 g1 : G} {a : Addr} {kvs : List (Key × W)} {P : G → Prop} (h0 : g0 a = some (.dic false kvs)) (h1 : g1 a = some (.dic false kvs)) (hq : P g1) : un g0 P (gup g1 a (.dic true kvs)) := by
  refine .inr ⟨a, ?_, .inl ⟨kvs, gup_same⟩, ?_⟩
  · rintro (⟨k, e⟩ | ⟨k, e⟩) <;> rw [h0] at e <;> cases e
  · rw [unl_dic gup_same, gup_gup, gup_eta h1]; exact hq
theorem newK {g : G} {a : Addr} {kvs : List (Key × W)} {xs : List W} {q : VK3} (h : g a = some (.dic false kvs)) (hq : q (.lv xs) g) : newL (gup g a (.dic true kvs)) xs (fun w g' => un g (fun g1 => frzS w g1 q) g') := by
  intro p hp
  have np : p ≠ a := fun z => by rw [z, gup_same] at hp; cases hp
  have hp0 : g p = none := by rw [gup_ne np] at hp; exact hp
  rw [gup_comm (Ne.symm np)]
  refine un_backX h (by rw [gup_ne (Ne.symm np)]; exact h) ?_
  rw [frzS_gup, gdel_gup hp0]; exact hq
def kvT (T : List (Str × Str)) : List (List Key × W) := T.map fun p => (keyP p, W.bl true)
theorem kvT_get {T : List (Str × Str)} {p : Str × Str} : (dGet (kvT T) (keyP p)).isSome = decide (p ∈ T) := by
  induction T with
  | nil => rfl
  | cons a T ih =>
    unfold kvT at ih ⊢
    rw [List.map_cons, dGet_cons]
    by_cases h : a = p
    · subst h; simp
    · rw [if_neg (fun z => h (keyP_inj _ _ (by simpa using z))), ih]
      simp [Ne.symm h]
theorem kvT_put {T : List (Str × Str)} {p : Str × Str} : dPut (kvT T) (keyP p) (.bl true) = kvT (if p ∈ T then T else T ++ [p]) := by
  unfold dPut
  rw [any_dGet, kvT_get]
  by_cases h : p ∈ T
  · rw [if_pos (by simpa using h), if_pos h]
    unfold kvT
    rw [List.map_map]
    refine List.map_congr_left fun x _ => ?_
    simp only [Function.comp]
    split
    · rename_i z; rw [z]
    · rfl
  · rw [if_neg (by simpa using h), if_neg h]
    simp [kvT]
theorem kvT_keys {T : List (Str × Str)} : (kvT T).map (fun p => ktW p.1) = T.map pairW := by simp [kvT, ktW, keyP, kW, Function.comp_def]
def Free (T : List (Str × Str)) (Bs : List Str) (good : Str) : Prop := ∀ y, Reach T good y → y ∉ Bs
open Classical in
noncomputable def freeB (T : List (Str × Str)) (Bs : List Str) (good : Str) : Bool := decide (Free T Bs good)
theorem freeB_t {T : List (Str × Str)} {Bs : List Str} {good : Str} : freeB T Bs good = true ↔ Free T Bs good := by
  unfold freeB
  exact @decide_eq_true_iff _ (Classical.propDecidable _)
theorem c_lfree {n : Nat} {T : List (Str × Str)} {Bs : List Str} {good : Str} {pa ba : Addr} (hT : T.length ≤ 1000) (hB : Bs.length ≤ 1000) {g : G} (hp : g pa = some (.dit false (kvT T))) (hb : g ba = some (.dic false (kvS Bs))) {x : XK3} {q : VK3} (hq : q (.bl (freeB T Bs good)) g) :
    callF P gl (n + 1) 28 [.ref pa, .ref ba, .str good] g x q := by
  refine u28 ?_
  walk_at "st"
  intro kd hkd
  refine ⟨by rw [gup_same], .inr good, rfl, ?_⟩
  rw [gup_gup]
  walk_at "st"
  have npk : pa ≠ kd := ne_free hp hkd
  have B0 : ∀ S : List Str, S.Nodup → (∀ x ∈ S, Reach T good x) → S.length ≤ (good :: T.map (·.2)).length := fun S nd hS => nd_sub nd fun x hx => by
    cases hS x hx with
    | base => exact List.mem_cons_self
    | step _ hm => exact List.mem_cons_of_mem _ (List.mem_map.mpr ⟨_, hm, rfl⟩)
  obtain ⟨B, eB, hBB⟩ : ∃ B, (good :: T.map (·.2)).length = B ∧ B ≤ 1001 := ⟨_, rfl, by simp; omega⟩
  rw [eB] at B0
  refine st_of rfl ⟨fun m s g' => ∃ (S : List Str) (gr : Bool) (o5 o6 o7 o8 : Option W), m = 2 * (B - S.length) + (if gr = true then 1 else 0) ∧ s = [some (.ref pa), some (.ref ba), some (.str good), some (.ref kd), some (.bl gr), o5, o6, o7, o8] ∧ Ext g g' ∧ g' kd = some (.dic false (kvS S)) ∧ S.Nodup ∧ good ∈ S ∧ (∀ x ∈ S, Reach T good x) ∧
    (gr = true ∨ ∀ u v, (u, v) ∈ T → u ∈ S → v ∈ S), ⟨_, [good], true, none, none, none, none, rfl, rfl, Ext.new hkd, gup_same, by simp, by simp, fun x hx => (by rw [List.mem_singleton.mp hx]; exact .base), .inl rfl⟩, ?_⟩
  rintro m s g' ⟨S, gr, o5, o6, o7, o8, rfl, rfl, xt, ek, nd, hg, hS, hc⟩
  walk_at "ss"
  cases gr with
  | false =>
    rw [if_neg (by decide)]
    have hc := hc.resolve_left (by decide)
    have hall : ∀ x, x ∈ S ↔ Reach T good x := fun x => ⟨hS x, fun r => by
      induction r with
      | base => exact hg
      | step _ hm ih => exact hc _ _ hm ih⟩
    refine st_of rfl ?_
    walk_at "ss"
    have hb' := xt _ _ hb
    rw [keys_dic hb', kvS_keys]
    refine lc_pure (f := W.str) (c := fun y => decide (y ∈ S)) (e := W.str) gup_same _ _ (fun y hy k hk => ?_) (fun y hy _ k hk => ?_) (by simp; omega) ?_
    · walk_at "ss"
      have nbk : ba ≠ kd := ne_free hb hkd
      refine in_dicS (by rw [gup_ne (Ne.symm nbk)]; exact ek) ?_
      rw [xor_f]
      exact ⟨_, rfl, hk⟩
    · walk_at "ss"
      exact hk
    · rw [List.nil_append]
      refine newK hb' ?_
      refine newF ?_
      refine eqS_w (α := List Str) (x := Bs.filter fun y => decide (y ∈ S)) (y := []) (by decide) ?_
      have e : decide ((Bs.filter fun y => decide (y ∈ S)) = []) = freeB T Bs good := by
        rw [Bool.eq_iff_iff, freeB_t, decide_eq_true_iff, List.filter_eq_nil_iff]
        constructor
        · intro h y hy hyb
          exact h y hyb (decide_eq_true ((hall y).mpr hy))
        · intro h y hyb z
          exact h y ((hall y).mp (of_decide_eq_true z)) hyb
      try rw [xor_f]
      rw [e]
      exact rt_drop xt hq
  | true =>
    rw [if_pos rfl]
    walk_at "st"
    rw [lenD ek, kvS_len]
    walk_at "st"
    have hp' := xt _ _ hp
    rw [keys_dit hp', kvT_keys]
    refine for_map (f := pairW) (fun pre post s gg => ∃ (S2 : List Str) (o6 o7 : Option W) (g2 : G), gg = gup g2 pa (.dit true (kvT T)) ∧ s = [some (.ref pa), some (.ref ba), some (.str good), some (.ref kd), some (.bl true), some (.int (S.length : Nat)), o6, o7, o8] ∧ Ext g g2 ∧ g2 kd = some (.dic false (kvS S2)) ∧ S2.Nodup ∧ good ∈ S2 ∧ (∀ x ∈ S2, Reach T good x) ∧ S.length ≤ S2.length ∧
      (S2.length = S.length → S2 = S ∧ ∀ u v, (u, v) ∈ pre → u ∈ S → v ∈ S)) ⟨S, o6, o7, g', rfl, rfl, xt, ek, nd, hg, hS, Nat.le_refl _, fun _ => ⟨rfl, fun u v hm => nomatch hm⟩⟩ ?_ ?_
    · rintro s gg ⟨S2, o6, o7, g2, rfl, rfl, xt2, ek2, nd2, hg2, hS2, hle, hsame⟩
      refine ⟨gup_same, un_backT hp' (xt2 _ _ hp) ?_⟩
      have b1 := B0 S nd hS
      have b2 := B0 S2 nd2 hS2
      walk_at "st"
      rw [lenD ek2, kvS_len]
      walk_at "ss"
      walk_at "nl"
      refine ⟨2 * (B - S2.length) + (if decide ((S.length : Int) < (S2.length : Nat)) = true then 1 else 0), ?_, S2, _, _, _, _, _, rfl, rfl, xt2, ek2, nd2, hg2, hS2, ?_⟩
      · by_cases z : (S.length : Int) < (S2.length : Nat)
        · rw [if_pos (by simpa using z)]; omega
        · rw [if_neg (by simpa using z)]; omega
      · by_cases z : (S.length : Int) < (S2.length : Nat)
        · exact .inl (by simpa using z)
        · obtain ⟨e1, e2⟩ := hsame (by omega)
          subst e1
          exact .inr e2
    · rintro e pre post s gg hx ⟨S2, o6, o7, g2, rfl, rfl, xt2, ek2, nd2, hg2, hS2, hle, hsame⟩ K hK
      refine ⟨gup_same, ?_⟩
      have he : e ∈ T := by rw [hx]; simp
      have b2 := B0 S2 nd2 hS2
      have ek3 : gup g2 pa (.dit true (kvT T)) kd = some (.dic false (kvS S2)) := by rw [gup_ne (Ne.symm npk)]; exact ek2
      walk_at "ss"
      refine ⟨rfl, ?_⟩
      walk_at "st"
      refine in_dicS ek3 ?_
      walk_at "ss"
      by_cases hu : e.1 ∈ S2
      · rw [if_pos hu]
        walk_at "st"
        refine put_dicS ek3 (by omega) ?_
        refine nl_of ?_
        refine hK _ _ ?_
        rw [gup_comm npk]
        by_cases hv : e.2 ∈ S2
        · rw [if_pos hv]
          refine ⟨S2, _, _, _, rfl, rfl, xt2.wr hkd, gup_same, nd2, hg2, hS2, hle, fun z => ?_⟩
          obtain ⟨e1, e2⟩ := hsame z
          refine ⟨e1, fun u v hm hu' => ?_⟩
          rcases List.mem_append.mp hm with hm | hm
          · exact e2 u v hm hu'
          · have := List.mem_singleton.mp hm
            have ev : v = e.2 := congrArg (·.2) this
            rw [ev, ← e1]; exact hv
        · rw [if_neg hv]
          refine ⟨S2 ++ [e.2], _, _, _, rfl, rfl, xt2.wr hkd, gup_same, ?_, List.mem_append_left _ hg2, fun x hx => ?_, by simp; omega, fun z => by simp at z; omega⟩
          · rw [List.nodup_append]
            refine ⟨nd2, by simp, fun a ha c hc => ?_⟩
            rw [List.mem_singleton.mp hc]
            exact fun z => hv (z ▸ ha)
          · rcases List.mem_append.mp hx with hx | hx
            · exact hS2 x hx
            · rw [List.mem_singleton.mp hx]; exact .step (hS2 _ hu) he
      · rw [if_neg hu]
        walk_at "nl"
        refine hK _ _ ⟨S2, _, _, _, rfl, rfl, xt2, ek2, nd2, hg2, hS2, hle, fun z => ?_⟩
        obtain ⟨e1, e2⟩ := hsame z
        refine ⟨e1, fun u v hm hu' => ?_⟩
        rcases List.mem_append.mp hm with hm | hm
        · exact e2 u v hm hu'
        · have := List.mem_singleton.mp hm
          have eu : u = e.1 := congrArg (·.1) this
          rw [eu, ← e1] at hu'; exact absurd hu' hu
abbrev ktE (e : (Str × Str) × Rt) : W := .tup [.str e.1.1, .str e.1.2]
theorem kvM_keys {M : PM} : (kvM M).map (fun p => ktW p.1) = M.map ktE := by simp [kvM, ktW, keyP, kW, Function.comp_def]
theorem lt_ahd {p c : List Str} : DatumOrd.lt (((p.length : Int), p) : Int × List Str) ((c.length : Int), c) = true ↔ ahd p c := by
  show (if (p.length : Int) = (c.length : Int) then chLt p c else decide ((p.length : Int) < (c.length : Int))) = true ↔ _
  unfold ahd
  by_cases h : p.length = c.length
  · rw [if_pos (by omega)]
    exact ⟨fun z => .inr ⟨h, z⟩, fun z => z.elim (fun z => by omega) fun z => z.2⟩
  · rw [if_neg (by omega), decide_eq_true_iff]
    exact ⟨fun z => .inl (by omega), fun z => z.elim (fun z => by omega) fun z => absurd z.1 h⟩
def leC (p c : List Str) : Prop := p = c ∨ ahd p c
theorem ahd_irr {p : List Str} : ¬ ahd p p := fun h => by
  rcases h with h | ⟨_, h⟩
  · omega
  · rw [chLt_irr] at h; cases h
theorem ahd_tr {p q r : List Str} (h1 : ahd p q) (h2 : ahd q r) : ahd p r := by
  unfold ahd at *
  rcases h1 with h1 | ⟨e1, h1⟩ <;> rcases h2 with h2 | ⟨e2, h2⟩
  · exact .inl (by omega)
  · exact .inl (by omega)
  · exact .inl (by omega)
  · exact .inr ⟨e1.trans e2, chLt_tr h1 h2⟩
theorem leC_of {p q : List Str} (h : ¬ ahd q p) : leC p q := by
  by_cases e : p = q
  · exact .inl e
  · right
    unfold ahd at *
    rcases Nat.lt_trichotomy p.length q.length with c | c | c
    · exact .inl c
    · rcases chLt_tri e with z | z
      · exact .inr ⟨c, z⟩
      · exact absurd (.inr ⟨c.symm, z⟩) h
    · exact absurd (.inl c) h
theorem leC_no {p q : List Str} (h : leC p q) (h2 : ahd q p) : False := by
  rcases h with h | h
  · subst h; exact ahd_irr h2
  · exact ahd_irr (ahd_tr h h2)
theorem leC_tr {p q r : List Str} (h1 : leC p q) (h2 : leC q r) : leC p r := by
  rcases h1 with rfl | h1
  · exact h2
  · rcases h2 with rfl | h2
    · exact .inr h1
    · exact .inr (ahd_tr h1 h2)
theorem leC_snoc {p q : List Str} {v : Str} (h : leC p q) : leC (p ++ [v]) (q ++ [v]) := by
  rcases h with rfl | h
  · exact .inl rfl
  · right
    unfold ahd at *
    rw [List.length_append, List.length_append]
    rcases h with h | ⟨e, h⟩
    · exact .inl (by simp; omega)
    · exact .inr ⟨by simp; omega, chLt_par e h⟩
structure KI (A : List Ent) (K : List (Str × List Str)) (r b : Nat) : Prop where
  nd : (K.map (·.1)).Nodup
  k1 : ∀ v c, dGet K v = some c → c.length ≤ b ∧ ∃ d ∈ A, endE d = v ∧ leC d.1 c
  k2 : ∀ e ∈ A, e.1.length ≤ r → dGet K (endE e) = some e.1
structure KM (A : List Ent) (K : List (Str × List Str)) (r b : Nat) (pre : PM) : Prop where
  ki : KI A K r b
  k3 : ∀ e ∈ A, ∀ d ∈ A, ∀ v, e.1.length = r + 1 → e.1 = d.1 ++ [v] → (∃ z, ((endE d, v), z) ∈ pre) → dGet K v = some e.1
section
variable {rat : Str → Str → Option Rt} {good : Str} {Bb : Nat} {A : List Ent} {K : List (Str × List Str)} {r b : Nat} {pre : PM}
theorem KI.go (I : KI A K r b) : KM A K r b [] := ⟨I, fun _ _ _ _ _ _ _ h => by obtain ⟨_, h⟩ := h; cases h⟩
theorem KI.start (w : WO rat good Bb A A.length) : KI A [(good, [good])] 1 1 := by
  have hd : (([good], (1, 1)) : Ent) ∈ A := List.mem_of_getElem? w.h0
  have g0 : dGet [(good, [good])] good = some [good] := by rw [dGet_cons, if_pos rfl]
  refine ⟨by simp, fun v c h => ?_, fun e he h => ?_⟩
  · rw [dGet_cons] at h
    split at h
    · rename_i z
      injection h with h
      subst h
      have z : good = v := z
      exact ⟨by simp, _, hd, by rw [← z]; exact endE_snoc (p := []), .inl rfl⟩
    · cases h
  · rcases w.first he with z | ⟨d, v, r, hd, _, h4, _⟩
    · subst z
      rw [show endE ([good], (1, 1)) = good from endE_snoc (p := [])]
      exact g0
    · have := (w.lenA hd).1
      rw [h4, List.length_append] at h
      simp only [List.length_cons, List.length_nil] at h; omega
theorem KM.same0 (I : KM A K r b pre) {p : (Str × Str) × Rt} (h : dGet K p.1.1 = none) : KM A K r (b + 1) (pre ++ [p]) := by
  refine ⟨⟨I.ki.nd, fun v c e => ⟨by have := (I.ki.k1 v c e).1; omega, (I.ki.k1 v c e).2⟩, I.ki.k2⟩, fun e he d hd v hl h2 hm => ?_⟩
  obtain ⟨z, hm⟩ := hm
  rcases List.mem_append.mp hm with hm | hm
  · exact I.k3 e he d hd v hl h2 ⟨z, hm⟩
  · have := List.mem_singleton.mp hm
    subst this
    have hl2 : d.1.length ≤ r := by rw [h2, List.length_append] at hl; simp at hl; omega
    rw [I.ki.k2 d hd hl2] at h; cases h
theorem KM.new (w : WO rat good Bb A A.length) (I : KM A K r b pre) {u v : Str} {c : List Str} (hr : rat u v ≠ none) (h : dGet K u = some c) : (c ++ [v]).length ≤ b + 1 ∧ ∃ d ∈ A, endE d = v ∧ leC d.1 (c ++ [v]) := by
  obtain ⟨h1, d, hd, h2, h3⟩ := I.ki.k1 u c h
  obtain ⟨i, hi, ei⟩ := List.mem_iff_getElem.mp hd
  obtain ⟨d2, hd2, h4, h5⟩ := w.cl i d v hi (by rw [List.getElem?_eq_getElem hi, ei]) (by rw [h2]; exact hr)
  exact ⟨by simp; omega, d2, hd2, h4, leC_tr (leC_of h5) (leC_snoc h3)⟩
theorem KM.is (I : KM A K r b pre) {e d : Ent} (hd : d ∈ A) {u v : Str} {c : List Str} (h : dGet K u = some c) (hl : e.1.length = r + 1) (h2 : e.1 = d.1 ++ [v]) (hu : endE d = u) : c ++ [v] = e.1 := by
  have hl2 : d.1.length ≤ r := by rw [h2, List.length_append] at hl; simp at hl; omega
  have := I.ki.k2 d hd hl2
  rw [hu, h] at this
  rw [h2, Option.some.inj this]
theorem KM.same (w : WO rat good Bb A A.length) (I : KM A K r b pre) {p : (Str × Str) × Rt} {c k : List Str} (h : dGet K p.1.1 = some c) (hk : dGet K p.1.2 = some k) (hn : ¬ ahd (c ++ [p.1.2]) k) : KM A K r (b + 1) (pre ++ [p]) := by
  refine ⟨⟨I.ki.nd, fun v c e => ⟨by have := (I.ki.k1 v c e).1; omega, (I.ki.k1 v c e).2⟩, I.ki.k2⟩, fun e he d hd v hl h2 hm => ?_⟩
  obtain ⟨z, hm⟩ := hm
  rcases List.mem_append.mp hm with hm | hm
  · exact I.k3 e he d hd v hl h2 ⟨z, hm⟩
  · have := List.mem_singleton.mp hm
    subst this
    have e1 := I.is hd h hl h2 rfl
    rw [e1] at hn
    obtain ⟨_, d3, hd3, h3, h4⟩ := I.ki.k1 _ _ hk
    have : d3 = e := w.uniq hd3 he (h3.trans (endE_of h2).symm)
    subst this
    rw [hk]
    rcases h4 with h4 | h4
    · rw [h4]
    · exact absurd h4 hn
theorem KM.put (w : WO rat good Bb A A.length) (I : KM A K r b pre) {p : (Str × Str) × Rt} {c : List Str} (hr : rat p.1.1 p.1.2 ≠ none) (h : dGet K p.1.1 = some c) (hk : ∀ k, dGet K p.1.2 = some k → ahd (c ++ [p.1.2]) k) : KM A (dPut K p.1.2 (c ++ [p.1.2])) r (b + 1) (pre ++ [p]) := by
  obtain ⟨n1, d2, hd2, n3, n4⟩ := I.new w hr h
  have no : ∀ e ∈ A, endE e = p.1.2 → dGet K p.1.2 ≠ some e.1 := fun e he h1 h2 => by
    have : d2 = e := w.uniq hd2 he (n3.trans h1.symm)
    subst this
    exact leC_no n4 (hk _ h2)
  refine ⟨⟨nd_put I.ki.nd, fun v k e => ?_, fun e he hl => ?_⟩, fun e he d hd v hl h2 hm => ?_⟩
  · rw [dGet_put] at e
    by_cases c1 : v = p.1.2
    · rw [if_pos c1] at e
      injection e with e
      subst e c1
      exact ⟨n1, d2, hd2, n3, n4⟩
    · rw [if_neg c1] at e
      exact ⟨by have := (I.ki.k1 v k e).1; omega, (I.ki.k1 v k e).2⟩
  · have h0 := I.ki.k2 e he hl
    rw [dGet_put]
    by_cases c1 : endE e = p.1.2
    · rw [c1] at h0
      exact absurd h0 (no e he c1)
    · rw [if_neg c1]; exact h0
  · obtain ⟨z, hm⟩ := hm
    rw [dGet_put]
    rcases List.mem_append.mp hm with hm | hm
    · have h0 := I.k3 e he d hd v hl h2 ⟨z, hm⟩
      by_cases c1 : v = p.1.2
      · rw [c1] at h0
        exact absurd h0 (no e he ((endE_of h2).trans c1))
      · rw [if_neg c1]; exact h0
    · have := List.mem_singleton.mp hm
      subst this
      rw [if_pos rfl, I.is hd h hl h2 rfl]
theorem KM.next {M : PM} (w : WO rat good Bb A A.length) (hM : ∀ u v, rat u v = dGet M (u, v)) (h1 : 1 ≤ r) (I : KM A K r b M) : KI A K (r + 1) b := by
  refine ⟨I.ki.nd, I.ki.k1, fun e he hl => ?_⟩
  rcases Nat.lt_or_ge r e.1.length with c | c
  · rcases w.first he with z | ⟨d, v, z, hd, h3, h4, _⟩
    · subst z; simp at c; omega
    · rw [endE_of h4]
      rw [hM] at h3
      exact I.k3 e he d hd v (by omega) h4 ⟨z, dGet_mem h3⟩
  · exact I.ki.k2 e he c
theorem KI.len (I : KI A K r b) : K.length ≤ A.length := by
  have := nd_sub (L := A.map endE) (S := K.map (·.1)) I.nd fun x hx => by
    obtain ⟨p, hp, rfl⟩ := List.mem_map.mp hx
    obtain ⟨_, d, hd, h2, _⟩ := I.k1 _ _ (nd_get I.nd hp)
    exact List.mem_map.mpr ⟨d, hd, h2⟩
  simpa using this
end
def kvC (K : List (Str × List Str)) : List (Key × W) := K.map fun p => (Sum.inr p.1, W.lv (p.2.map W.str))
theorem kvC_get {K : List (Str × List Str)} {v : Str} : dGet (kvC K) (.inr v) = (dGet K v).map fun c => W.lv (c.map W.str) := dGet_mk (f := (Sum.inr : Str → Key)) (h := fun c : List Str => W.lv (c.map W.str)) inr_inj
theorem kvC_put {K : List (Str × List Str)} {v : Str} {c : List Str} : dPut (kvC K) (.inr v) (.lv (c.map W.str)) = kvC (dPut K v c) := dPut_mk (f := (Sum.inr : Str → Key)) (h := fun c : List Str => W.lv (c.map W.str)) inr_inj
theorem c_lleast {n : Nat} {M : PM} {rat : Str → Str → Option Rt} {A : List Ent} {Bb : Nat} {good : Str} (hM : ∀ u v, rat u v = dGet M (u, v)) (w : WO rat good Bb A A.length) (hA : A.length ≤ 7) (hml : M.length ≤ 100) (hmn : (M.map (·.1)).Nodup) {sa : Addr} {g : G} (hm : g sa = some (.dit false (kvM M))) {x : XK3} {q : VK3}
    (hq : ∀ (kd : Addr) (K : List (Str × List Str)) (b : Nat) (g' : G), Ext g g' → ¬ (g kd).isSome = true → g' kd = some (.dic false (kvC K)) → KI A K 7 b → b ≤ 700 → q (.ref kd) g') : callF P gl (n + 1) 29 [.ref sa, .str good] g x q := by
  refine u29 ?_
  refine st_of rfl ?_
  walk_at "ss"
  intro kd hkd
  have nsk : sa ≠ kd := ne_free hm hkd
  refine newF ?_
  refine ⟨gup_same, .inr good, rfl, ?_⟩
  rw [gup_gup]
  refine st_of rfl ?_
  walk_at "ss"
  refine ⟨small_len (n := 6) (by decide), ?_⟩
  refine for_rng (n := 6) (fun j s g' => ∃ (K : List (Str × List Str)) (b : Nat) (o3 o4 o5 o6 o7 : Option W), KI A K (j + 1) b ∧ b ≤ 1 + 100 * j ∧ s = [some (.ref sa), some (.str good), some (.ref kd), o3, o4, o5, o6, o7] ∧ Ext g g' ∧ g' kd = some (.dic false (kvC K))) ⟨[(good, [good])], 1, none, none, none, none, none, KI.start w, by omega, rfl, Ext.new hkd, gup_same⟩ ?_ ?_
  · rintro s g' ⟨K, b, o3, o4, o5, o6, o7, I, hb, rfl, xt, ek⟩
    refine ⟨trivial, ?_⟩
    refine st_of rfl ?_
    walk_at "ss"
    have := hq kd K b g' xt (by rw [hkd]; simp) ek I (by omega)
    first | exact rt_keep this | exact this
  · rintro j s g' hj ⟨K, b, o3, o4, o5, o6, o7, I, hb, rfl, xt, ek⟩ KK hK
    refine ⟨trivial, ?_⟩
    refine st_of rfl ?_
    walk_at "ss"
    have hm' := xt _ _ hm
    rw [keys_dit hm', kvM_keys]
    refine for_map (f := ktE) (fun pre post s gg => ∃ (K : List (Str × List Str)) (o4 o5 o6 o7 : Option W) (g2 : G), gg = gup g2 sa (.dit true (kvM M)) ∧ KM A K (j + 1) (b + pre.length) pre ∧ s = [some (.ref sa), some (.str good), some (.ref kd), some (.int (0 + (j : Int))), o4, o5, o6, o7] ∧ Ext g g2 ∧ g2 kd = some (.dic false (kvC K))) ⟨K, o4, o5, o6, o7, g', rfl, I.go, rfl, xt, ek⟩ ?_ ?_
    · rintro s gg ⟨K, o4, o5, o6, o7, g2, rfl, I, rfl, xt2, ek2⟩
      refine ⟨gup_same, un_backT hm' (xt2 _ _ hm) ?_⟩
      refine nl_of (CF := callF P gl n) (gl := gl) ?_
      exact hK _ _ ⟨K, _, _, _, _, _, _, I.next w hM (by omega), by omega, rfl, xt2, ek2⟩
    · rintro ⟨⟨u, v⟩, z⟩ pre post s gg hx ⟨K, o4, o5, o6, o7, g2, rfl, I, rfl, xt2, ek2⟩ K2 hK2
      have hpl : pre.length < M.length := by rw [hx]; simp
      have er : dGet M (u, v) = some z := nd_get hmn (p := ((u, v), z)) (by rw [hx]; simp)
      have hrt : rat u v ≠ none := by rw [hM, er]; simp
      have ekd : gup g2 sa (.dit true (kvM M)) kd = some (.dic false (kvC K)) := by rw [gup_ne (Ne.symm nsk)]; exact ek2
      have eb : b + (pre ++ [((u, v), z)]).length = b + pre.length + 1 := by simp; omega
      refine ⟨gup_same, ?_⟩
      walk_at "ss"
      refine ⟨rfl, ?_⟩
      refine st_of rfl ?_
      walk_at "ss"
      refine in_s ekd ?_
      rw [kvC_get]
      cases hu : dGet K u with
      | none =>
        refine ⟨_, rfl, ?_⟩
        rw [if_neg (by simp)]
        refine nl_of (CF := callF P gl n) (gl := gl) ?_
        exact hK2 _ _ ⟨K, _, _, _, _, g2, rfl, by rw [eb]; exact I.same0 hu, rfl, xt2, ek2⟩
      | some c =>
        obtain ⟨n1, _⟩ := I.new w hrt hu
        refine ⟨_, rfl, ?_⟩
        rw [if_pos (by simp)]
        refine st_of rfl ?_
        walk_at "ss"
        refine ix_s ekd (by rw [kvC_get, hu]; rfl) ?_
        refine newF ?_
        walk_at "ss"
        refine ⟨sl_le (by simp at n1 ⊢; omega), newF ?_⟩
        refine st_of rfl ?_
        walk_at "ss"
        refine ⟨isDic_s ekd, ?_⟩
        refine dget_s ekd ?_
        rw [kvC_get]
        have ec : c.map W.str ++ [W.str v] = (c ++ [v]).map W.str := by simp
        rw [ec]
        cases hv : dGet K v with
        | none =>
          simp only [Option.map_none, Option.getD_none]
          refine st_of rfl ?_
          walk_at "ss"
          refine st_of rfl ?_
          walk_at "ss"
          refine put_s ekd (by have := I.ki.len; simp [kvC]; omega) ?_
          rw [kvC_put, gup_comm nsk]
          refine nl_of ?_
          exact hK2 _ _ ⟨_, _, _, _, _, _, rfl, by rw [eb]; exact I.put w (p := ((u, v), z)) hrt hu (fun k hk => by rw [hv] at hk; cases hk), rfl, xt2.wr hkd, gup_same⟩
        | some k =>
          simp only [Option.map_some, Option.getD_some]
          refine st_of rfl ?_
          walk_at "ss"
          rw [List.length_map, List.length_map]
          refine lt_w (α := Int × List Str) (x := (((c ++ [v]).length : Int), c ++ [v])) (y := ((k.length : Int), k)) (by decide) ?_
          refine ⟨_, rfl, ?_⟩
          by_cases c1 : ahd (c ++ [v]) k
          · rw [if_pos (lt_ahd.mpr c1)]
            refine st_of rfl ?_
            walk_at "ss"
            refine put_s ekd (by have := I.ki.len; simp [kvC]; omega) ?_
            rw [kvC_put, gup_comm nsk]
            refine nl_of ?_
            exact hK2 _ _ ⟨_, _, _, _, _, _, rfl, by rw [eb]; exact I.put w (p := ((u, v), z)) hrt hu (fun k2 hk => by rw [hv] at hk; cases hk; exact c1), rfl, xt2.wr hkd, gup_same⟩
          · rw [if_neg (fun z => c1 (lt_ahd.mp z))]
            refine nl_of (CF := callF P gl n) (gl := gl) ?_
            exact hK2 _ _ ⟨K, _, _, _, _, g2, rfl, by rw [eb]; exact I.same w (p := ((u, v), z)) hu hv c1, rfl, xt2, ek2⟩
section
variable {α : Type} [DecidableEq α] [DatumOrd α] [OrdL α] [WD α]
theorem toD_inj {a b : α} (h : Datum.toD a = Datum.toD b) : a = b := by
  have e := Datum.eqv a b
  rw [← h] at e
  have e2 := Datum.eqv a a
  rw [e2] at e
  simpa using e.symm
theorem minOf_le (x : α) : ∀ xs : List α, oLe (minOf x xs) x = true ∧ ∀ y ∈ xs, oLe (minOf x xs) y = true
  | [] => ⟨by unfold minOf oLe; simp [OrdL.irr], by simp⟩
  | y :: ys => by
    have e : minOf x (y :: ys) = minOf (if DatumOrd.lt y x = true then y else x) ys := rfl
    obtain ⟨h1, h2⟩ := minOf_le (if DatumOrd.lt y x = true then y else x) ys
    rw [e]
    generalize minOf (if DatumOrd.lt y x = true then y else x) ys = m at *
    have k : oLe m x = true ∧ oLe m y = true := by
      by_cases c : DatumOrd.lt y x = true
      · rw [if_pos c] at h1
        refine ⟨oLe_trans _ _ _ h1 ?_, h1⟩
        rcases (Bool.or_eq_true _ _).mp (oLe_total y x) with z | z
        · exact z
        · unfold oLe at z; rw [c] at z; cases z
      · rw [if_neg c] at h1
        refine ⟨h1, oLe_trans _ _ _ h1 ?_⟩
        unfold oLe
        simpa using c
    exact ⟨k.1, fun z hz => by
      rcases List.mem_cons.mp hz with rfl | hz
      · exact k.2
      · exact h2 z hz⟩
theorem min_w {g : G} {xs : List α} {q : VK3} (hd : Datum.depth α ≤ 64) (ne : xs ≠ []) (hq : ∀ m ∈ xs, (∀ y ∈ xs, oLe m y = true) → q (WD.w m) g) : minL (xs.map WD.w) g q := by
  cases xs with
  | nil => exact absurd rfl ne
  | cons y ys =>
    have em : ((y :: ys).map WD.w).map (encW α) = (y :: ys).map Datum.toD := by rw [List.map_map]; exact List.map_congr_left fun x _ => encW_w x
    refine ⟨encW α, WD.w y, ys.map WD.w, rfl, fun x hx => ?_, ?_, ?_, fun z hz e => ?_⟩
    · obtain ⟨y, _, rfl⟩ := List.mem_map.mp hx; rw [encW_w]; exact WD.hw g y
    · rw [em]; exact alikeAll_datum (y :: ys)
    · rw [em]; exact Nat.le_trans (depthAll_map (y :: ys)) hd
    · obtain ⟨m, hm, rfl⟩ := List.mem_map.mp hz
      have em2 : (ys.map WD.w).map (encW α) = ys.map Datum.toD := by rw [List.map_map]; exact List.map_congr_left fun x _ => encW_w x
      rw [encW_w, encW_w, em2, minD_map] at e
      have := toD_inj e
      subst this
      obtain ⟨h1, h2⟩ := minOf_le y ys
      exact hq _ hm fun z hz => by
        rcases List.mem_cons.mp hz with rfl | hz
        · exact h1
        · exact h2 z hz
end
def pairOf (K : List (Str × List Str)) (v : Str) : Int × List Str := ((((dGet K v).getD []).length : Int), (dGet K v).getD [])
noncomputable def freeXs (T : List (Str × Str)) (Bs : List Str) (K : List (Str × List Str)) : List (Int × List Str) := ((K.map (·.1)).filter (freeB T Bs)).map (pairOf K)
noncomputable def firstF (T : List (Str × Str)) (Bs : List Str) (A : List Ent) : Option Ent := A.find? fun e => freeB T Bs (endE e)
def dueW : Option Ent → W
  | none => .non
  | some e => .tup [.lv (e.1.map W.str), .tup [.int e.2.1, .int e.2.2]]
section
variable {rat : Str → Str → Option Rt} {good : Str} {Bb : Nat} {A : List Ent} {K : List (Str × List Str)} {r b : Nat} {pre : PM} {T : List (Str × Str)} {Bs : List Str}
theorem KI.all (w : WO rat good Bb A A.length) (hA : A.length ≤ 7) (I : KI A K 7 b) {y : Int × List Str} : y ∈ freeXs T Bs K ↔ ∃ e ∈ A, freeB T Bs (endE e) = true ∧ y = ((e.1.length : Int), e.1) := by
  have full : ∀ e ∈ A, dGet K (endE e) = some e.1 := fun e he => I.k2 e he (by have := (w.lenA he).2; omega)
  unfold freeXs
  rw [List.mem_map]
  constructor
  · rintro ⟨v, hv, rfl⟩
    obtain ⟨h1, h2⟩ := List.mem_filter.mp hv
    obtain ⟨p, hp, rfl⟩ := List.mem_map.mp h1
    obtain ⟨_, d, hd, h3, _⟩ := I.k1 _ _ (nd_get I.nd hp)
    rw [← h3] at h2 ⊢
    exact ⟨d, hd, h2, by unfold pairOf; rw [full d hd]; rfl⟩
  · rintro ⟨e, he, h1, rfl⟩
    refine ⟨endE e, List.mem_filter.mpr ⟨List.mem_map.mpr ⟨_, dGet_mem (full e he), rfl⟩, h1⟩, ?_⟩
    unfold pairOf; rw [full e he]; rfl
theorem KI.no (w : WO rat good Bb A A.length) (hA : A.length ≤ 7) (I : KI A K 7 b) (h : freeXs T Bs K = []) : firstF T Bs A = none := by
  unfold firstF
  rw [List.find?_eq_none]
  intro e he z
  have := (I.all w hA (T := T) (Bs := Bs)).mpr ⟨e, he, z, rfl⟩
  rw [h] at this; cases this
theorem KI.min (w : WO rat good Bb A A.length) (hA : A.length ≤ 7) (I : KI A K 7 b) {m : Int × List Str} (hm : m ∈ freeXs T Bs K) (hmin : ∀ y ∈ freeXs T Bs K, oLe m y = true) : ∃ e ∈ A, firstF T Bs A = some e ∧ m = ((e.1.length : Int), e.1) := by
  obtain ⟨e, he, h1, rfl⟩ := (I.all w hA).mp hm
  refine ⟨e, he, ?_, rfl⟩
  cases hf : firstF T Bs A with
  | none =>
    unfold firstF at hf
    rw [List.find?_eq_none] at hf
    exact absurd h1 (hf e he)
  | some e0 =>
    unfold firstF at hf
    obtain ⟨h2, as, bs, h3, h4⟩ := List.find?_eq_some_iff_append.mp hf
    have he0 : e0 ∈ A := by rw [h3]; simp
    have h5 := hmin _ ((I.all w hA).mpr ⟨e0, he0, h2, rfl⟩)
    rw [h3] at he
    rcases List.mem_append.mp he with z | z
    · have := h4 e z
      rw [h1] at this; cases this
    · rcases List.mem_cons.mp z with z | z
      · rw [z]
      · have o := w.ord
        rw [h3] at o
        have o2 := (List.pairwise_cons.mp (List.pairwise_append.mp o).2.1).1 e z
        unfold oLe at h5
        rw [lt_ahd.mpr o2] at h5
        cases h5
end
theorem c_ldue {n : Nat} {M : PM} {L : List Str} {rat : Str → Str → Option Rt} {A : List Ent} {Bb : Nat} {good : Str} (o : PmOk L Bb M) (hBb : 1 ≤ Bb) (hB9 : Bb * 9 ≤ 4000) (hM : ∀ u v, rat u v = dGet M (u, v)) (w : WO rat good Bb A A.length) (hA : A.length ≤ 7) {T : List (Str × Str)} {Bs : List Str} {pa ba sa : Addr} (hT : T.length ≤ 1000) (hB : Bs.length ≤ 1000) {g : G} (hp : g pa = some (.dit false (kvT T))) (hb : g ba = some (.dic false (kvS Bs))) (hm : g sa = some (.dit false (kvM M))) {x : XK3} {q : VK3} (hq : q (dueW (firstF T Bs A)) g) :
    callF P gl (n + 3) 30 [.ref pa, .ref sa, .ref ba, .str good] g x q := by
  refine u30 ?_
  refine st_of rfl ?_
  walk_at "ss"
  refine c_lleast hM w hA o.len o.nd hm fun kd K b g' xt hkn ek I hb7 => ?_
  have hA2 := I.len
  have hp' := xt _ _ hp
  have hb' := xt _ _ hb
  have hm' := xt _ _ hm
  have nbk : ba ≠ kd := fun z => hkn (by rw [← z]; rw [hb]; rfl)
  refine st_of rfl ?_
  walk_at "ss"
  rw [keys_dic ek, show (kvC K).map (fun p => kW p.1) = (K.map (·.1)).map W.str by simp [kvC, kW, Function.comp_def]]
  refine lc_pure (f := W.str) (c := freeB T Bs) (e := fun v => WD.w (pairOf K v)) gup_same _ _ (fun v hv k hk => ?_) (fun v hv _ k hk => ?_) (by simp; omega) ?_
  · walk_at "ss"
    refine c_lfree hT hB (by rw [gup_ne (fun z => by rw [z, ek] at hp'; cases hp')]; exact hp') (by rw [gup_ne (fun z => by rw [z] at nbk; exact nbk rfl)]; exact hb') ?_
    exact ⟨_, rfl, hk⟩
  · obtain ⟨pp, hpp, rfl⟩ := List.mem_map.mp hv
    have e1 := nd_get I.nd hpp
    have ep : pairOf K pp.1 = ((pp.2.length : Int), pp.2) := by unfold pairOf; rw [e1]; rfl
    rw [ep] at hk
    walk_at "ss"
    refine ix_s (g := gup g' kd (.dic true (kvC K))) gup_same (by rw [kvC_get, e1]; rfl) ?_
    walk_at "ss"
    refine ix_s (g := gup g' kd (.dic true (kvC K))) gup_same (by rw [kvC_get, e1]; rfl) ?_
    rw [List.length_map]
    exact hk
  · rw [List.nil_append]
    have ex : (((K.map (·.1)).filter (freeB T Bs)).map fun v => (WD.w (pairOf K v) : W)) = (freeXs T Bs K).map WD.w := by unfold freeXs; rw [List.map_map]; rfl
    rw [ex]
    intro p hpn
    have npk : p ≠ kd := fun z => by rw [z, gup_same] at hpn; cases hpn
    have hp0 : g' p = none := by rw [gup_ne npk] at hpn; exact hpn
    rw [gup_comm (Ne.symm npk)]
    refine un_backX ek (by rw [gup_ne (Ne.symm npk)]; exact ek) ?_
    have xt := xt.trans (Ext.new (o := .lst ((freeXs T Bs K).map WD.w)) hp0)
    have e3 : gup g' p (.lst ((freeXs T Bs K).map WD.w)) p = some (.lst ((freeXs T Bs K).map WD.w)) := gup_same
    have hm3 := xt _ _ hm
    generalize gup g' p (.lst ((freeXs T Bs K).map WD.w)) = g3 at *
    refine st_K rfl fun KK hKK => ?_
    walk_at "ss"
    refine eqS_hw (α := List (Int × List Str)) (x := freeXs T Bs K) (y := []) (hw_lstM e3 fun y _ => WD.hw _ y) (WD.hw _ ([] : List (Int × List Str))) (by decide) ?_
    refine ⟨_, rfl, ?_⟩
    try rw [xor_f]
    by_cases c : freeXs T Bs K = []
    · rw [if_pos (by simpa using c)]
      refine st_of rfl ?_
      walk_at "ss"
      rw [I.no w hA c] at hq
      exact rt_drop xt hq
    · rw [if_neg (by simpa using c)]
      refine nl_of (CF := callF P gl (n + 2)) (gl := gl) ?_
      refine hKK _ _ ?_
      clear hKK KK
      refine st_of rfl ?_
      walk_at "ss"
      refine (lstAt_of e3).mpr ?_
      refine .inr ?_
      refine min_w (α := Int × List Str) (by decide) c fun m hm1 hm2 => ?_
      obtain ⟨e, he, hf, rfl⟩ := I.min w hA hm1 hm2
      rw [hf] at hq
      have E := w.ch o hBb hM _ e he rfl
      have he1 := w.lenA he
      have h9 : Bb * (e.1.length + 2) ≤ Bb * 9 := Nat.mul_le_mul_left _ (by omega)
      have hBs : Bb ≤ 4000 := by omega
      generalize hC : e.1 = C at *
      show ixS (.tup [.int (C.length : Int), .lv (C.map W.str)]) (.int 1) _ _
      walk_at "ss"
      refine st_of rfl ?_
      walk_at "ss"
      refine st_of rfl ?_
      walk_at "ss"
      refine st_of rfl ?_
      walk_at "ss"
      rw [List.length_map]
      rw [show ((C.length : Nat) : Int) - 1 = ((C.length - 1 : Nat) : Int) by omega]
      refine ⟨small_len (by omega), ?_⟩
      rw [Int.toNat_natCast]
      refine for_rng (fun k s g1 => ∃ (o4 o5 : Option W), s = [some (.ref pa), some (.ref sa), some (.ref ba), some (.str good), some (.ref kd), some (.ref p), some (.lv (C.map W.str)), some (.int (alT M C k).1), some (.int (alT M C k).2), o4, o5, none] ∧ g1 = g3) ⟨none, none, rfl, rfl⟩ ?_ ?_
      · rintro s g1 ⟨o4, o5, rfl, rfl⟩
        refine ⟨trivial, ?_⟩
        refine st_of rfl ?_
        walk_at "ss"
        obtain ⟨⟨p1, p2⟩, b1, b2⟩ := alT_pos o hBb (C := C) (C.length - 1)
        have hb2 : Bb * (C.length - 1) ≤ Bb * (C.length + 2) := Nat.mul_le_mul_left _ (by omega)
        have i1 : Bt (alT M C (C.length - 1)).1 (Bb * (C.length - 1) + 1) := ⟨b1⟩
        have i2 : Bt (alT M C (C.length - 1)).2 (Bb * (C.length - 1) + 1) := ⟨b2⟩
        refine c_lowest (A := Bb * (C.length - 1) + 1) (B := Bb * (C.length - 1) + 1) p1 (by rw [Nat.max_self]; omega) fun t u L2 => ?_
        have E1 := E.eq
        rw [hC] at E1
        obtain ⟨rfl, rfl⟩ := L2.uniq (by omega) E.pos E.cop E1
        have hq2 : q (.tup [.lv (C.map W.str), .tup [.int e.2.1, .int e.2.2]]) g := by rw [← hC]; exact hq
        exact rt_drop xt hq2
      · rintro k s g1 hk ⟨o4, o5, rfl, rfl⟩ K3 hK3
        refine ⟨trivial, ?_⟩
        have hlk := E.lk
        rw [hC] at hlk
        show svs _ _ _ _ [some (.ref pa), some (.ref sa), some (.ref ba), some (.str good), some (.ref kd), some (.ref p), some (.lv (C.map W.str)), some (.int (alT M C k).1), some (.int (alT M C k).2), some (.int (0 + (k : Nat))), o5, none] _
        rw [Int.zero_add]
        obtain ⟨a, b, r, k1, k2, k3⟩ := hlk k (by omega)
        have er : rtAt M C k = r := by unfold rtAt; rw [k1, k2]; show (dGet M (a, b)).getD _ = _; rw [k3]; rfl
        obtain ⟨⟨p1, p2⟩, b1, b2⟩ := alT_pos o hBb (C := C) k
        have ro := o.ok _ (dGet_mem k3)
        have hb2 : Bb * k ≤ Bb * (C.length + 2) := Nat.mul_le_mul_left _ (by omega)
        refine st_of rfl ?_
        walk_at "ss"
        refine ixV_m (f := W.str) k1 ?_
        rw [show (k : Int) + 1 = ((k + 1 : Nat) : Int) by omega]
        refine ixV_m (f := W.str) k2 ?_
        refine ix_pm hm3 k3 ?_
        refine st_of rfl ?_
        show ev _ _ _ _ _ _ _
        simp only [ratW]
        walk_at "ss"
        refine mul_of (mul_ok b1 ro.b1 (by omega)) ?_
        refine st_of rfl ?_
        walk_at "ss"
        refine mul_of (mul_ok b2 ro.b2 (by omega)) ?_
        refine nl_of ?_
        have e1 : (alT M C (k + 1)).1 = (alT M C k).1 * r.1 := by show _ * (rtAt M C k).1 = _; rw [er]
        have e2 : (alT M C (k + 1)).2 = (alT M C k).2 * r.2 := by show _ * (rtAt M C k).2 = _; rw [er]
        refine hK3 _ _ ⟨some (.int (k : Int)), some (.tup [.int r.1, .int r.2]), by rw [e1, e2], rfl⟩
def noX (g : G) : Prop := ∀ a l, g a ≠ some (.xd l)
theorem noX.up {g : G} {a : Addr} {o : GO} (h : noX g) (ho : ∀ l, o ≠ .xd l) : noX (gup g a o) := fun b l e => by
  by_cases c : b = a
  · subst c; rw [gup_same] at e; exact ho l (Option.some.inj e)
  · rw [gup_ne c] at e; exact h b l e
theorem setd_peX {g0 g : G} {pd p : Addr} {D : List RowD} {Ps : List (Str × Str)} (h : PE g pd D Ps) (f : PF g0 g pd D) (hP : Ps.length ≤ 1000) (hp : g p = none) {u v : Str} {q : VK3}
    (hq : ∀ (r : Addr) (g1 : G), (∀ K : G → Prop, (∀ D' g2, PE g2 pd D' (Ps ++ [(u, v)]) → PF g0 g2 pd D' → (noX g → noX g2) → K g2) → putS (.ref r) (.str v) (.bl true) g1 K) → q (.ref r) g1) : setdS (.ref pd) (.str u) (.ref p) (gup g p (.dic false [])) q := by
  have x := Ext.new (o := .dic false []) hp
  have hdl := h.dlen
  have hp0 : g0 p = none := by
    cases e : g0 p with
    | none => rfl
    | some o => rw [f.x _ _ e] at hp; cases hp
  simp only [setdS, x _ _ h.pd_.at_, toKey]
  refine ⟨small_line (by unfold rowK; rw [List.length_map]; omega), ?_⟩
  rcases rowK_get (D := D) (u := u) with ⟨e, he, e1, e2⟩ | ⟨hno, e2⟩
  · rw [e2]
    refine hq _ _ fun K hK => ?_
    have h' := h.ext x
    refine put_dicS (h'.pd_.row e he) (by have := h.rlen e he; omega) ?_
    subst e1
    refine hK _ _ (h'.put_old he v) ⟨(f.x.trans x).wr (f.r e he), f.p, fun e' he' => ?_⟩ (fun z => (z.up fun _ => by simp).up fun _ => by simp)
    obtain ⟨e0, h0, _, _, e5⟩ := setR_mem he'
    rw [e5]; exact f.r e0 h0
  · rw [e2]
    have np : pd ≠ p := ne_free h.pd_.at_ hp
    have ed : dPut (rowK D) (.inr u) (.ref p) = rowK D ++ [(.inr u, .ref p)] := by
      unfold dPut
      rw [any_dGet, e2]; rfl
    rw [ed]
    refine hq _ _ fun K hK => ?_
    refine put_dicS (S := []) (by rw [gup_ne np.symm]; exact gup_same) (by simp) ?_
    rw [if_neg (by simp), List.nil_append]
    refine hK _ _ (h.put_new hp hno v gup_same fun e he => by rw [gup_ne (h.ne e he), gup_ne (ne_free (h.pd_.row e he) hp)]) ⟨((f.x.trans x).wr f.p).wr hp0, f.p, fun e he => ?_⟩ (fun z => ((z.up fun _ => by simp).up fun _ => by simp).up fun _ => by simp)
    rcases List.mem_append.mp he with he | he
    · exact f.r e he
    · rw [List.mem_singleton.mp he]; exact hp0
theorem setd_sdX {g0 g : G} {pd p : Addr} {D : SDt} (h : SD g pd D) (f : SF g0 g pd D) (hD : D.length ≤ 1000) (hS : ∀ u r, dGet D u = some r → r.2.length ≤ 1000) (hp : g p = none) {u v : Str} {r : Rt} {q : VK3}
    (hq : ∀ (a : Addr) (S : List (Str × Rt)) (g1 : G), ((dGet D u = some (a, S)) ∨ (dGet D u = none ∧ S = [])) →
      (∀ K : G → Prop, (∀ g2, SD g2 pd (dPut D u (a, dPut S v r)) → SF g0 g2 pd (dPut D u (a, dPut S v r)) → (∀ b o, b ≠ pd → (∀ u r, dGet D u = some r → b ≠ r.1) → g b = some o → g2 b = some o) → (noX g → noX g2) → K g2) → putS (.ref a) (.str v) (ratW r) g1 K) →
      (∀ b o, b ≠ pd → g b = some o → g1 b = some o) → q (.ref a) g1) : setdS (.ref pd) (.str u) (.ref p) (gup g p (.dic false [])) q := by
  have x := Ext.new (o := .dic false []) hp
  have hp0 : g0 p = none := by
    cases e : g0 p with
    | none => rfl
    | some o => rw [f.x _ _ e] at hp; cases hp
  have np : pd ≠ p := ne_free h.at_ hp
  simp only [setdS, x _ _ h.at_, toKey]
  refine ⟨small_line (by unfold rowS; rw [List.length_map]; omega), ?_⟩
  rw [rowS_get]
  cases e : dGet D u with
  | some a =>
    obtain ⟨a, S⟩ := a
    have h' := h.ext x
    have hl := hS u _ e
    simp only [Option.map_some]
    have same : ∀ v' r', dGet (dPut D u (a, dPut S v r)) v' = some r' → (v' = u ∧ r' = (a, dPut S v r)) ∨ (v' ≠ u ∧ dGet D v' = some r') := fun v' r' e' => by
      rw [dGet_put] at e'
      by_cases c : v' = u
      · rw [if_pos c] at e'; cases e'; exact .inl ⟨c, rfl⟩
      · rw [if_neg c] at e'; exact .inr ⟨c, e'⟩
    have rs : rowS (dPut D u (a, dPut S v r)) = rowS D := by
      unfold rowS dPut
      rw [any_dGet, e]
      simp only [Option.isSome_some, if_true]
      rw [List.map_map]
      refine List.map_congr_left fun z hz => ?_
      simp only [Function.comp]
      by_cases c : z.1 = u
      · rw [if_pos c]
        have := nd_get h.nd hz
        rw [c, e] at this
        rw [← Option.some.inj this]
      · rw [if_neg c]
    refine hq a S _ (.inl e) (fun K hK => ?_) fun b o _ hb => x _ _ hb
    refine put_s (h'.row u _ e) (by unfold kvR; rw [List.length_map]; omega) ?_
    rw [kvR_put]
    refine hK _ ⟨?_, fun v' r' e' => ?_, fun v1 v2 r1 r2 e1 e2 z => ?_, fun v' r' e' => ?_, nd_put h.nd⟩ ⟨(f.x.trans x).wr (f.r u _ e), f.p, fun v' r' e' => ?_⟩ (fun b o hb1 hb2 hb => ?_) (fun z => by first | exact (z.up fun _ => by simp).up fun _ => by simp | exact ((z.up fun _ => by simp).up fun _ => by simp).up fun _ => by simp)
    · rw [gup_ne (Ne.symm (h.ne u _ e)), rs]; exact h'.at_
    · rcases same v' r' e' with ⟨rfl, rfl⟩ | ⟨c, e'⟩
      · exact gup_same
      · rw [gup_ne (fun z => c (h.inj _ _ _ _ e' e z))]; exact h'.row v' r' e'
    · rcases same v1 r1 e1 with ⟨m1, m2⟩ | ⟨c1, k1⟩ <;> rcases same v2 r2 e2 with ⟨n1, n2⟩ | ⟨c2, k2⟩
      · rw [m1, n1]
      · rw [m1]; rw [m2] at z; exact h.inj _ _ _ _ e k2 z
      · rw [n1]; rw [n2] at z; exact h.inj _ _ _ _ k1 e z
      · exact h.inj _ _ _ _ k1 k2 z
    · rcases same v' r' e' with ⟨m1, m2⟩ | ⟨c, k1⟩
      · rw [m2]; exact h.ne u (a, S) e
      · exact h.ne _ _ k1
    · rcases same v' r' e' with ⟨m1, m2⟩ | ⟨c, k1⟩
      · rw [m2]; exact f.r u (a, S) e
      · exact f.r _ _ k1
    · rw [gup_ne (hb2 u _ e)]; exact x _ _ hb
  | none =>
    simp only [Option.map_none]
    have same : ∀ v' r', dGet (dPut D u (p, dPut [] v r)) v' = some r' → (v' = u ∧ r' = (p, dPut [] v r)) ∨ (v' ≠ u ∧ dGet D v' = some r') := fun v' r' e' => by
      rw [dGet_put] at e'
      by_cases c : v' = u
      · rw [if_pos c] at e'; cases e'; exact .inl ⟨c, rfl⟩
      · rw [if_neg c] at e'; exact .inr ⟨c, e'⟩
    have rs : rowS (dPut D u (p, dPut [] v r)) = dPut (rowS D) (.inr u) (.ref p) := (dPut_mk (f := (Sum.inr : Str → Key)) (h := fun r : Addr × List (Str × Rt) => W.ref r.1) inr_inj (v := (p, dPut [] v r))).symm
    refine hq p [] _ (.inr ⟨e, rfl⟩) (fun K hK => ?_) fun b o hb1 hb => by rw [gup_ne hb1]; exact x _ _ hb
    refine put_s (kvs := []) (by rw [gup_ne np.symm]; exact gup_same) (by simp) ?_
    have ek : dPut ([] : List (Key × W)) (.inr v) (ratW r) = kvR (dPut [] v r) := kvR_put (S := [])
    rw [ek]
    refine hK _ ⟨?_, fun v' r' e' => ?_, fun v1 v2 r1 r2 e1 e2 z => ?_, fun v' r' e' => ?_, nd_put h.nd⟩ ⟨((f.x.trans x).wr f.p).wr hp0, f.p, fun v' r' e' => ?_⟩ (fun b o hb1 hb2 hb => ?_) (fun z => by first | exact (z.up fun _ => by simp).up fun _ => by simp | exact ((z.up fun _ => by simp).up fun _ => by simp).up fun _ => by simp)
    · rw [gup_ne np, gup_same, rs]
    · rcases same v' r' e' with ⟨rfl, rfl⟩ | ⟨c, e'⟩
      · exact gup_same
      · rw [gup_ne (ne_free (h.row _ _ e') hp), gup_ne (h.ne _ _ e'), gup_ne (ne_free (h.row _ _ e') hp)]; exact h.row v' r' e'
    · rcases same v1 r1 e1 with ⟨m1, m2⟩ | ⟨c1, k1⟩ <;> rcases same v2 r2 e2 with ⟨n1, n2⟩ | ⟨c2, k2⟩
      · rw [m1, n1]
      · rw [m2] at z; exact absurd z.symm (ne_free (h.row _ _ k2) hp)
      · rw [n2] at z; exact absurd z (ne_free (h.row _ _ k1) hp)
      · exact h.inj _ _ _ _ k1 k2 z
    · rcases same v' r' e' with ⟨rfl, rfl⟩ | ⟨c, e'⟩
      · exact np.symm
      · exact h.ne _ _ e'
    · rcases same v' r' e' with ⟨rfl, rfl⟩ | ⟨c, e'⟩
      · exact hp0
      · exact f.r _ _ e'
    · rw [gup_ne (ne_free hb hp), gup_ne hb1]; exact x _ _ hb
theorem neO {g : G} {a b : Addr} {o o2 : GO} (h1 : g a = some o) (h2 : g b = some o2) (h : o ≠ o2) : a ≠ b := fun z => by subst z; rw [h1] at h2; exact h (Option.some.inj h2)
structure Gh where
  pd : Addr
  sd : Addr
  bd : Addr
  nd : Addr
  pa : Addr
  sa : Addr
  ba : Addr
  D : List RowD
  Ps : List (Str × Str)
  S : SDt
  Bl : List Str
  Nm : List Str
  T : List (Str × Str)
  M : PM
  Bw : List Str
def fpD (pd : Addr) (D : List RowD) : List Addr := pd :: D.map (·.2.1)
def fpS (sd : Addr) (S : SDt) : List Addr := sd :: S.map (·.2.1)
structure HS (lr : Addr) (Z : Gh) (g : G) : Prop where
  ob : g lr = some (.ins 0 [("parts", .ref Z.pd), ("stands", .ref Z.sd), ("bars", .ref Z.bd), ("names", .ref Z.nd)])
  pe : PE g Z.pd Z.D Z.Ps
  se : SD g Z.sd Z.S
  bl : g Z.bd = some (.dic false (kvS Z.Bl))
  nm : g Z.nd = some (.dic false (kvS Z.Nm))
  tp : g Z.pa = some (.dit false (kvT Z.T))
  ts : g Z.sa = some (.dit false (kvM Z.M))
  bw : g Z.ba = some (.dic false (kvS Z.Bw))
  o3 : Z.bd ≠ Z.nd ∧ Z.bd ≠ Z.ba ∧ Z.nd ≠ Z.ba
  fo : ∀ a, a = Z.bd ∨ a = Z.nd ∨ a = Z.ba → a ∉ fpD Z.pd Z.D ∧ a ∉ fpS Z.sd Z.S
  ds : ∀ a ∈ fpD Z.pd Z.D, a ∉ fpS Z.sd Z.S
  nt : Z.pa ≠ Z.sa
  nx : noX g
section
variable {lr : Addr} {Z : Gh} {g g' : G}
theorem fpD_row {pd : Addr} {D : List RowD} {e : RowD} (he : e ∈ D) : e.2.1 ∈ fpD pd D := List.mem_cons_of_mem _ (List.mem_map.mpr ⟨e, he, rfl⟩)
theorem fpS_row {sd : Addr} {S : SDt} {u : Str} {r : Addr × List (Str × Rt)} (h : dGet S u = some r) : r.1 ∈ fpS sd S := List.mem_cons_of_mem _ (List.mem_map.mpr ⟨_, dGet_mem h, rfl⟩)
theorem HS.dD (h : HS lr Z g) {a : Addr} (ha : a ∈ fpD Z.pd Z.D) : ∃ k, g a = some (.dic false k) := by
  rcases List.mem_cons.mp ha with z | z
  · rw [z]; exact ⟨_, h.pe.pd_.at_⟩
  · obtain ⟨e, he, rfl⟩ := List.mem_map.mp z
    exact ⟨_, h.pe.pd_.row e he⟩
theorem HS.dS (h : HS lr Z g) {a : Addr} (ha : a ∈ fpS Z.sd Z.S) : ∃ k, g a = some (.dic false k) := by
  rcases List.mem_cons.mp ha with z | z
  · rw [z]; exact ⟨_, h.se.at_⟩
  · obtain ⟨e, he, rfl⟩ := List.mem_map.mp z
    exact ⟨_, h.se.row _ _ (nd_get h.se.nd he)⟩
theorem HS.lD (h : HS lr Z g) {a : Addr} {o : GO} (ha : g a = some o) (ho : ∀ k, o ≠ .dic false k) : a ∉ fpD Z.pd Z.D ∧ a ∉ fpS Z.sd Z.S := ⟨fun z => by
    obtain ⟨k, e⟩ := h.dD z
    rw [ha] at e; exact ho k (Option.some.inj e), fun z => by
    obtain ⟨k, e⟩ := h.dS z
    rw [ha] at e; exact ho k (Option.some.inj e)⟩
theorem HS.keepPE (h : HS lr Z g) {a : Addr} {o : GO} (ha : a ∉ fpD Z.pd Z.D) : PE (gup g a o) Z.pd Z.D Z.Ps :=
  h.pe.tr (gup_ne fun z => ha (by rw [← z]; exact List.mem_cons_self)) fun e he => gup_ne fun z => ha (by rw [← z]; exact fpD_row he)
theorem HS.keepSE (h : HS lr Z g) {a : Addr} {o : GO} (ha : a ∉ fpS Z.sd Z.S) : SD (gup g a o) Z.sd Z.S :=
  h.se.tr (gup_ne fun z => ha (by rw [← z]; exact List.mem_cons_self)) fun u r e => gup_ne fun z => ha (by rw [← z]; exact fpS_row e)
theorem HS.set_nm (h : HS lr Z g) (X : List Str) : HS lr { Z with Nm := X } (gup g Z.nd (.dic false (kvS X))) := by
  have k := h.fo Z.nd (.inr (.inl rfl))
  exact ⟨by rw [gup_ne (neO h.ob h.nm (by simp))]; exact h.ob, h.keepPE k.1, h.keepSE k.2, by rw [gup_ne h.o3.1]; exact h.bl, gup_same, by rw [gup_ne (neO h.tp h.nm (by simp))]; exact h.tp, by rw [gup_ne (neO h.ts h.nm (by simp))]; exact h.ts, by rw [gup_ne (Ne.symm h.o3.2.2)]; exact h.bw, h.o3, h.fo, h.ds, h.nt, h.nx.up fun _ => by simp⟩
theorem HS.set_bl (h : HS lr Z g) (X : List Str) : HS lr { Z with Bl := X } (gup g Z.bd (.dic false (kvS X))) := by
  have k := h.fo Z.bd (.inl rfl)
  exact ⟨by rw [gup_ne (neO h.ob h.bl (by simp))]; exact h.ob, h.keepPE k.1, h.keepSE k.2, gup_same, by rw [gup_ne (Ne.symm h.o3.1)]; exact h.nm, by rw [gup_ne (neO h.tp h.bl (by simp))]; exact h.tp, by rw [gup_ne (neO h.ts h.bl (by simp))]; exact h.ts, by rw [gup_ne (Ne.symm h.o3.2.1)]; exact h.bw, h.o3, h.fo, h.ds, h.nt, h.nx.up fun _ => by simp⟩
theorem HS.set_bw (h : HS lr Z g) (X : List Str) : HS lr { Z with Bw := X } (gup g Z.ba (.dic false (kvS X))) := by
  have k := h.fo Z.ba (.inr (.inr rfl))
  exact ⟨by rw [gup_ne (neO h.ob h.bw (by simp))]; exact h.ob, h.keepPE k.1, h.keepSE k.2, by rw [gup_ne h.o3.2.1]; exact h.bl, by rw [gup_ne h.o3.2.2]; exact h.nm, by rw [gup_ne (neO h.tp h.bw (by simp))]; exact h.tp, by rw [gup_ne (neO h.ts h.bw (by simp))]; exact h.ts, gup_same, h.o3, h.fo, h.ds, h.nt, h.nx.up fun _ => by simp⟩
theorem HS.set_tp (h : HS lr Z g) (X : List (Str × Str)) : HS lr { Z with T := X } (gup g Z.pa (.dit false (kvT X))) := by
  have k := h.lD h.tp (by simp)
  exact ⟨by rw [gup_ne (neO h.ob h.tp (by simp))]; exact h.ob, h.keepPE k.1, h.keepSE k.2, by rw [gup_ne (neO h.bl h.tp (by simp))]; exact h.bl, by rw [gup_ne (neO h.nm h.tp (by simp))]; exact h.nm, gup_same, by rw [gup_ne (Ne.symm h.nt)]; exact h.ts, by rw [gup_ne (neO h.bw h.tp (by simp))]; exact h.bw, h.o3, h.fo, h.ds, h.nt, h.nx.up fun _ => by simp⟩
theorem HS.set_ts (h : HS lr Z g) (X : PM) : HS lr { Z with M := X } (gup g Z.sa (.dit false (kvM X))) := by
  have k := h.lD h.ts (by simp)
  exact ⟨by rw [gup_ne (neO h.ob h.ts (by simp))]; exact h.ob, h.keepPE k.1, h.keepSE k.2, by rw [gup_ne (neO h.bl h.ts (by simp))]; exact h.bl, by rw [gup_ne (neO h.nm h.ts (by simp))]; exact h.nm, by rw [gup_ne h.nt]; exact h.tp, gup_same, by rw [gup_ne (neO h.bw h.ts (by simp))]; exact h.bw, h.o3, h.fo, h.ds, h.nt, h.nx.up fun _ => by simp⟩
def cutG (g : G) (F : List Addr) : G := fun a => if a ∈ F then none else g a
theorem cutG_some {F : List Addr} {a : Addr} {o : GO} (h : g a = some o) (hn : a ∉ F) : cutG g F a = some o := by unfold cutG; rw [if_neg hn]; exact h
theorem cutG_none {F : List Addr} {a : Addr} (h : cutG g F a = none) : a ∈ F ∨ g a = none := by
  unfold cutG at h
  split at h
  · exact .inl (by assumption)
  · exact .inr h
theorem HS.pf (h : HS lr Z g) : PF (cutG g (fpD Z.pd Z.D)) g Z.pd Z.D := by
  refine ⟨fun a o e => ?_, ?_, fun e he => ?_⟩
  · unfold cutG at e
    split at e
    · cases e
    · exact e
  · exact if_pos List.mem_cons_self
  · unfold cutG; rw [if_pos (fpD_row he)]
theorem HS.sf (h : HS lr Z g) : SF (cutG g (fpS Z.sd Z.S)) g Z.sd Z.S := by
  refine ⟨fun a o e => ?_, ?_, fun u r e => ?_⟩
  · unfold cutG at e
    split at e
    · cases e
    · exact e
  · exact if_pos List.mem_cons_self
  · unfold cutG; rw [if_pos (fpS_row e)]
theorem HS.set_pe (h : HS lr Z g) {D' : List RowD} {Ps' : List (Str × Str)} (h1 : PE g' Z.pd D' Ps') (h2 : PF (cutG g (fpD Z.pd Z.D)) g' Z.pd D') (h3 : noX g → noX g') : HS lr { Z with D := D', Ps := Ps' } g' := by
  have fr : ∀ {a o}, a ∉ fpD Z.pd Z.D → g a = some o → g' a = some o := fun ha e => h2.x _ _ (cutG_some e ha)
  have mem : ∀ a ∈ fpD Z.pd D', a ∈ fpD Z.pd Z.D ∨ g a = none := fun a ha => by
    rcases List.mem_cons.mp ha with z | z
    · rw [z]; exact .inl List.mem_cons_self
    · obtain ⟨e, he, rfl⟩ := List.mem_map.mp z
      exact cutG_none (h2.r e he)
  have sn : ∀ a ∈ fpS Z.sd Z.S, a ∉ fpD Z.pd Z.D := fun a ha hb => h.ds a hb ha
  have so : ∀ a, a ∈ fpS Z.sd Z.S → g a ≠ none := fun a ha z => by obtain ⟨k, e⟩ := h.dS ha; rw [e] at z; cases z
  refine ⟨fr (h.lD h.ob (by simp)).1 h.ob, h1, h.se.tr ?_ fun u r e => ?_, fr (h.fo _ (.inl rfl)).1 h.bl, fr (h.fo _ (.inr (.inl rfl))).1 h.nm, fr (h.lD h.tp (by simp)).1 h.tp, fr (h.lD h.ts (by simp)).1 h.ts, fr (h.fo _ (.inr (.inr rfl))).1 h.bw, h.o3, fun a ha => ⟨fun z => ?_, (h.fo a ha).2⟩, fun a ha hb => ?_, h.nt, h3 h.nx⟩
  · rw [fr (sn _ List.mem_cons_self) h.se.at_, h.se.at_]
  · rw [fr (sn _ (fpS_row e)) (h.se.row u r e), h.se.row u r e]
  · rcases mem a z with z | z
    · exact (h.fo a ha).1 z
    · rcases ha with rfl | rfl | rfl
      · rw [h.bl] at z; cases z
      · rw [h.nm] at z; cases z
      · rw [h.bw] at z; cases z
  · rcases mem a ha with z | z
    · exact h.ds a z hb
    · exact so a hb z
theorem HS.set_se (h : HS lr Z g) {S' : SDt} (h1 : SD g' Z.sd S') (h2 : SF (cutG g (fpS Z.sd Z.S)) g' Z.sd S') (h3 : noX g → noX g') : HS lr { Z with S := S' } g' := by
  have fr : ∀ {a o}, a ∉ fpS Z.sd Z.S → g a = some o → g' a = some o := fun ha e => h2.x _ _ (cutG_some e ha)
  have mem : ∀ a ∈ fpS Z.sd S', a ∈ fpS Z.sd Z.S ∨ g a = none := fun a ha => by
    rcases List.mem_cons.mp ha with z | z
    · rw [z]; exact .inl List.mem_cons_self
    · obtain ⟨e, he, rfl⟩ := List.mem_map.mp z
      exact cutG_none (h2.r _ _ (nd_get h1.nd he))
  have so : ∀ a, a ∈ fpD Z.pd Z.D → g a ≠ none := fun a ha z => by obtain ⟨k, e⟩ := h.dD ha; rw [e] at z; cases z
  refine ⟨fr (h.lD h.ob (by simp)).2 h.ob, h.pe.tr ?_ fun e he => ?_, h1, fr (h.fo _ (.inl rfl)).2 h.bl, fr (h.fo _ (.inr (.inl rfl))).2 h.nm, fr (h.lD h.tp (by simp)).2 h.tp, fr (h.lD h.ts (by simp)).2 h.ts, fr (h.fo _ (.inr (.inr rfl))).2 h.bw, h.o3, fun a ha => ⟨(h.fo a ha).1, fun z => ?_⟩, fun a ha hb => ?_, h.nt, h3 h.nx⟩
  · rw [fr (h.ds _ List.mem_cons_self) h.pe.pd_.at_, h.pe.pd_.at_]
  · rw [fr (h.ds _ (fpD_row he)) (h.pe.pd_.row e he), h.pe.pd_.row e he]
  · rcases mem a z with z | z
    · exact (h.fo a ha).2 z
    · rcases ha with rfl | rfl | rfl
      · rw [h.bl] at z; cases z
      · rw [h.nm] at z; cases z
      · rw [h.bw] at z; cases z
  · rcases mem a hb with z | z
    · exact h.ds a ha z
    · exact so a ha z
end
theorem c_need {n : Nat} {w : Str} (hw : nameR w = true) {g : G} {x : XK3} {q : VK3} (hq : q .non g) : callF P gl (n + 2) 12 [.str w] g x q := by
  have hl : w.length ≤ 12 := (of_decide_eq_true hw).2.1
  refine u12 ?_
  refine st_of rfl ?_
  walk_at "ss"
  refine c_isname (by omega) ?_
  rw [hw]
  walk_at "ss"
  refine nl_of (CF := callF P gl (n + 1)) (gl := gl) ?_
  exact .inl hq
theorem len_sub {α : Type} [DecidableEq α] : ∀ {S L : List α}, S.Nodup → (∀ x ∈ S, x ∈ L) → S.length ≤ L.length
  | [], _, _, _ => Nat.zero_le _
  | a :: S, L, nd, h => by
    have ha := h a List.mem_cons_self
    have := len_sub (S := S) (L := L.erase a) (List.nodup_cons.mp nd).2 fun x hx => (List.mem_erase_of_ne (show x ≠ a from fun z => (List.nodup_cons.mp nd).1 (by rw [← z]; exact hx))).mpr (h x (List.mem_cons_of_mem _ hx))
    rw [List.length_erase_of_mem ha] at this
    have := List.length_pos_of_mem ha
    simp only [List.length_cons]; omega
theorem list_dS {g : G} {a : Addr} {S : List Str} {q : VK3} (h : g a = some (.dic false (kvS S))) (hq : newL g (S.map W.str) q) : listS [.ref a] g q := by
  simp only [listS, h]
  rw [kvS_keys]; exact hq
theorem map_krS {L : List Str} : L.map W.str = (L.map Sum.inr).map kW := by rw [List.map_map]; rfl
def addS (X : List Str) (w : Str) : List Str := if w ∈ X then X else X ++ [w]
theorem addS_mem {X : List Str} {w y : Str} : y ∈ addS X w ↔ y ∈ X ∨ y = w := by
  unfold addS
  split
  · exact ⟨.inl, fun z => z.elim id fun z => by subst z; assumption⟩
  · simp
theorem addS_nd {X : List Str} {w : Str} (h : X.Nodup) : (addS X w).Nodup := by
  unfold addS
  split
  · exact h
  · rename_i hv
    rw [List.nodup_append]
    refine ⟨h, by simp, fun a ha c hc => ?_⟩
    rw [List.mem_singleton.mp hc]
    exact fun z => hv (z ▸ ha)
theorem addS_len {X : List Str} {w : Str} : (addS X w).length ≤ X.length + 1 := by
  unfold addS; split <;> simp
theorem c_note {n : Nat} {lr : Addr} {Z : Gh} {ws : List Str} (hl : Z.Nm.length + ws.length ≤ 80) {g : G} {x : XK3} {q : VK3} (h : HS lr Z g) (hq : ∀ g', HS lr { Z with Nm := ws.foldl addS Z.Nm } g' → q .non g') : callF P gl (n + 1) 14 [.ref lr, .lv (ws.map W.str)] g x q := by
  refine u14 ?_
  refine st_K rfl fun K hK => ?_
  walk_at "ss"
  refine attr_of h.ob rfl ?_
  refine list_dS h.nm ?_
  refine newF ?_
  walk_at "ss"
  refine ⟨sl_le (by simp; omega), newF ?_⟩
  rw [← List.map_append]
  refine ⟨(Z.Nm ++ ws).map Sum.inr, map_krS, by simp; omega, fun ms hn hm => ?_⟩
  have hms : ms.length ≤ 80 := by
    have e := len_sub hn (fun x hx => (hm x).mp hx)
    simp only [List.length_map, List.length_append] at e; omega
  walk_at "ss"
  rw [if_neg (by omega)]
  refine nl_of (CF := callF P gl n) (gl := gl) ?_
  refine hK _ _ ?_
  clear hK K
  refine st_of rfl ?_
  walk_at "ss"
  refine for_map (f := W.str) (fun pre post s g' => ∃ (o2 : Option W), s = [some (.ref lr), some (.lv (ws.map W.str)), o2] ∧ HS lr { Z with Nm := pre.foldl addS Z.Nm } g' ∧ (pre.foldl addS Z.Nm).length ≤ Z.Nm.length + pre.length) ⟨none, rfl, h, by simp⟩ ?_ ?_
  · rintro s g' ⟨o2, rfl, h', _⟩
    refine ⟨trivial, ?_⟩
    refine nl_of (CF := callF P gl n) (gl := gl) ?_
    exact .inl (hq g' h')
  · rintro w pre post s g' hx ⟨o2, rfl, h', hl'⟩ K hK
    refine ⟨trivial, ?_⟩
    have hpl : pre.length < ws.length := by rw [hx]; simp
    show svs _ _ _ _ [some (.ref lr), some (.lv (ws.map W.str)), some (.str w)] _
    refine st_of rfl ?_
    walk_at "ss"
    refine attr_of h'.ob rfl ?_
    walk_at "ss"
    refine put_dicS h'.nm (by show (pre.foldl addS Z.Nm).length ≤ _; omega) ?_
    refine nl_of (CF := callF P gl n) (gl := gl) ?_
    refine hK _ _ ⟨_, rfl, ?_, ?_⟩
    · rw [List.foldl_append]
      exact h'.set_nm (addS (pre.foldl addS Z.Nm) w)
    · rw [List.foldl_append]
      have := addS_len (X := pre.foldl addS Z.Nm) (w := w)
      simp only [List.foldl_cons, List.foldl_nil, List.length_append, List.length_cons, List.length_nil]; omega
theorem c_part {n : Nat} {lr : Addr} {Z : Gh} {u v : Str} (hu : nameR u = true) (hv : nameR v = true) (hno : ¬ Reach Z.Ps v u) (hP : Z.Ps.length ≤ 900) (hN : Z.Nm.length ≤ 70) {g : G} {x : XK3} {q : VK3} (h : HS lr Z g)
    (hq : ∀ D' g', HS lr { Z with D := D', Ps := Z.Ps ++ [(u, v)], Nm := addS (addS Z.Nm u) v } g' → q .non g') : callF P gl (n + 3) 15 [.ref lr, .str u, .str v] g x q := by
  refine u15 ?_
  refine st_of rfl ?_
  walk_at "ss"
  refine c_need hu ?_
  refine st_of rfl ?_
  walk_at "ss"
  refine c_need hv ?_
  refine st_of rfl ?_
  walk_at "ss"
  refine attr_of h.ob rfl ?_
  walk_at "ss"
  refine c_down (Go := [u]) (by omega) h.pe.pd_ (fun y g' q' _ hq' => ?_) (fun _ => ?_) (fun L name _ hm hr _ => absurd (by rw [← List.mem_singleton.mp hm]; exact hr) hno)
  · refine inS_w (α := Str) (x := y) (xs := [u]) (by decide) ?_
    rw [xor_f]; exact hq'
  refine st_of rfl ?_
  walk_at "ss"
  refine nl_of (CF := callF P gl (n + 2)) (gl := gl) ?_
  refine st_of rfl ?_
  walk_at "ss"
  refine mc_of h.ob rfl ?_
  refine newF ?_
  refine c_note (ws := [u, v]) (by simp; omega) h fun g1 h1 => ?_
  refine st_of rfl ?_
  walk_at "ss"
  refine attr_of h1.ob rfl ?_
  refine ⟨isDic_of h1.pe.pd_.at_, ?_⟩
  walk_at "ss"
  intro p hp
  refine setd_peX h1.pe h1.pf (by show Z.Ps.length ≤ _; omega) hp (v := v) fun r g2 hput => ?_
  refine st_of rfl ?_
  walk_at "ss"
  refine hput _ fun D' g3 h' f' hx => ?_
  refine nl_of (CF := callF P gl (n + 2)) (gl := gl) ?_
  exact .inl (hq D' g3 (h1.set_pe h' f' hx))
theorem c_bar {n : Nat} {lr : Addr} {Z : Gh} {u : Str} (hu : nameR u = true) (hN : Z.Nm.length ≤ 70) (hB : Z.Bl.length ≤ 900) {g : G} {x : XK3} {q : VK3} (h : HS lr Z g)
    (hq : ∀ g', HS lr { Z with Nm := addS Z.Nm u, Bl := addS Z.Bl u } g' → q .non g') : callF P gl (n + 3) 17 [.ref lr, .str u] g x q := by
  refine u17 ?_
  refine st_of rfl ?_
  walk_at "ss"
  refine c_need hu ?_
  refine st_of rfl ?_
  walk_at "ss"
  refine mc_of h.ob rfl ?_
  refine newF ?_
  refine c_note (ws := [u]) (by simp; omega) h fun g1 h1 => ?_
  refine st_of rfl ?_
  walk_at "ss"
  refine attr_of h1.ob rfl ?_
  refine put_dicS h1.bl (by show Z.Bl.length ≤ _; omega) ?_
  refine nl_of (CF := callF P gl (n + 2)) (gl := gl) ?_
  exact .inl (hq _ (h1.set_bl (addS Z.Bl u)))
theorem kvS_del {S : List Str} {u : Str} (nd : S.Nodup) : dDel (kvS S) (.inr u) = kvS (S.erase u) := by
  unfold dDel kvS
  rw [nd.erase_eq_filter, List.filter_map]
  congr 1
  refine List.filter_congr fun x _ => ?_
  simp only [Function.comp]
  by_cases c : x = u
  · subst c; simp
  · simp [c]
theorem c_allow {n : Nat} {lr : Addr} {Z : Gh} {u : Str} (hu : nameR u = true) (nd : Z.Bl.Nodup) {g : G} {x : XK3} {q : VK3} (h : HS lr Z g)
    (hq : ∀ g', HS lr { Z with Bl := Z.Bl.erase u } g' → q .non g') : callF P gl (n + 3) 18 [.ref lr, .str u] g x q := by
  refine u18 ?_
  refine st_of rfl ?_
  walk_at "ss"
  refine c_need hu ?_
  refine st_K rfl fun K hK => ?_
  walk_at "ss"
  refine attr_of h.ob rfl ?_
  refine in_dicS h.bl ?_
  rw [xor_f]
  refine ⟨_, rfl, ?_⟩
  by_cases c : u ∈ Z.Bl
  · rw [if_pos (by simpa using c)]
    refine st_of rfl ?_
    walk_at "ss"
    refine attr_of h.ob rfl ?_
    refine ⟨isDic_of h.bl, ?_⟩
    simp only [dpopS, h.bl, toKey]
    obtain ⟨v, hv⟩ : ∃ v, dGet (kvS Z.Bl) (.inr u) = some v := by
      have := kvS_get (S := Z.Bl) (s := u)
      rw [decide_eq_true c] at this
      exact Option.isSome_iff_exists.mp this
    refine ⟨v, hv, ?_⟩
    rw [kvS_del nd]
    refine nl_of (CF := callF P gl (n + 2)) (gl := gl) ?_
    refine hK _ _ ?_
    refine nl_of (CF := callF P gl (n + 2)) (gl := gl) ?_
    exact .inl (hq _ (h.set_bl _))
  · rw [if_neg (by simpa using c)]
    refine nl_of (CF := callF P gl (n + 2)) (gl := gl) ?_
    refine hK _ _ ?_
    refine nl_of (CF := callF P gl (n + 2)) (gl := gl) ?_
    have := h.set_bl (Z.Bl)
    rw [gup_eta h.bl] at this
    rw [List.erase_of_not_mem c] at hq
    exact .inl (hq _ this)
theorem HS.ext {lr : Addr} {Z : Gh} {g g' : G} (h : HS lr Z g) (x : Ext g g') (hx : noX g') : HS lr Z g' :=
  ⟨x _ _ h.ob, h.pe.ext x, h.se.ext x, x _ _ h.bl, x _ _ h.nm, x _ _ h.tp, x _ _ h.ts, x _ _ h.bw, h.o3, h.fo, h.ds, h.nt, hx⟩
theorem c_isfrac {n : Nat} {r : Rt} {Bb : Nat} (hr : RtOk Bb r) {g : G} {x : XK3} {q : VK3} (hq : q (.bl true) g) : callF P gl (n + 2) 7 [ratW r] g x q := by
  refine u7 ?_
  obtain ⟨a, b⟩ := r
  have p2 : 0 < b := hr.p2
  have hc : Int.gcd a b = 1 := hr.cop
  show svs _ _ _ _ [some (.tup [.int a, .int b])] _
  refine st_of rfl ?_
  walk_at "ss"
  refine nl_of (CF := callF P gl (n + 1)) (gl := gl) ?_
  refine st_of rfl ?_
  walk_at "ss"
  refine c_isw ?_
  walk_at "ss"
  refine c_isw ?_
  walk_at "ss"
  refine nl_of (CF := callF P gl (n + 1)) (gl := gl) ?_
  refine st_of rfl ?_
  walk_at "ss"
  try rw [if_pos p2]
  refine c_div ?_
  rw [hc]
  walk_at "ss"
  first | exact hq | exact rt_keep hq
theorem c_barred {n : Nat} {lr : Addr} {Z : Gh} {u : Str} (hu : nameR u = true) (hP : Z.Ps.length ≤ 900) {g : G} {x : XK3} {q : VK3} (h : HS lr Z g)
    (hf : Free Z.Ps Z.Bl u → q .non g) (hw : ∀ (L : List Str) (name : Str), Way Z.Ps u name L → name ∈ Z.Bl → Reach Z.Ps u name → q (.lv (L.map W.str)) g) : callF P gl (n + 3) 21 [.ref lr, .str u] g x q := by
  refine u21 ?_
  refine st_of rfl ?_
  walk_at "ss"
  refine c_need hu ?_
  refine st_of rfl ?_
  walk_at "ss"
  refine attr_of h.ob rfl ?_
  refine attr_of h.ob rfl ?_
  refine list_dS h.bl ?_
  refine newF ?_
  refine c_down (Go := Z.Bl) (by omega) h.pe.pd_ (fun y g' q' _ hq' => ?_) (fun hn => ?_) (fun L name hL hm hr _ => ?_)
  · refine inS_w (α := Str) (x := y) (xs := Z.Bl) (by decide) ?_
    rw [xor_f]; exact hq'
  · exact rt_keep (hf hn)
  · exact rt_keep (hw L name hL hm hr)
theorem c_less {n : Nat} {a b c d : Int} {A B C D : Nat} [Bt a A] [Bt b B] [Bt c C] [Bt d D] {g : G} {x : XK3} {q : VK3} (hs : A + B + C + D ≤ 8000) (h : q (.bl (decide (a * d < c * b))) g) : callF P gl (n + 1) 9 [.tup [.int a, .int b], .tup [.int c, .int d]] g x q := by
  refine u9 ?_
  refine st_of rfl ?_
  walk_at "ss"
  refine mul_of (mulC (by omega)) (mul_of (mulC (by omega)) ?_)
  walk_at "ss"
  first | exact rt_keep h | exact h
theorem c_stand {n : Nat} {lr : Addr} {Z : Gh} {u v : Str} {r : Rt} {Bb : Nat} (hBb : 1 ≤ Bb) (hB4 : Bb ≤ 1000) (hu : nameR u = true) (hv : nameR v = true) (huv : u ≠ v) (hno : ratD Z.S u v = none) (hr : RtOk Bb r) (hS : Z.S.length ≤ 900) (hSr : ∀ u r, dGet Z.S u = some r → r.2.length ≤ 900) (hN : Z.Nm.length ≤ 70) {g : G} {x : XK3} {q : VK3} (h : HS lr Z g)
    (hq : ∀ a S0 g', ((dGet Z.S u = some (a, S0)) ∨ (dGet Z.S u = none ∧ S0 = [])) → HS lr { Z with S := dPut Z.S u (a, dPut S0 v r), Nm := addS (addS Z.Nm u) v } g' → q .non g') : callF P gl (n + 3) 16 [.ref lr, .str u, .str v, ratW r] g x q := by
  obtain ⟨ra, rb⟩ := r
  show callF P gl (n + 3) 16 [.ref lr, .str u, .str v, .tup [.int ra, .int rb]] g x q
  refine u16 ?_
  refine st_of rfl ?_
  walk_at "ss"
  refine c_need hu ?_
  refine st_of rfl ?_
  walk_at "ss"
  refine c_need hv ?_
  refine st_of rfl ?_
  walk_at "ss"
  refine nl_of (CF := callF P gl (n + 2)) (gl := gl) ?_
  refine st_K rfl fun K hK => ?_
  walk_at "ss"
  rw [if_neg huv]
  refine attr_of h.ob rfl ?_
  refine ⟨isDic_s h.se.at_, ?_⟩
  walk_at "ss"
  intro p hp
  have xp := Ext.new (o := .dic false []) hp
  have hx1 : noX (gup g p (.dic false [])) := h.nx.up fun _ => by simp
  have h := h.ext xp hx1
  have hpp : gup g p (.dic false []) p = some (.dic false []) := gup_same
  generalize gup g p (.dic false []) = g1 at *
  refine dget_s h.se.at_ ?_
  rw [rowS_get]
  have fin : ∀ (w : W) (k : G → Prop) , True := fun _ _ => trivial
  have go : ∀ {w : W}, (∃ (a : Addr) (S0 : List (Str × Rt)), w = .ref a ∧ g1 a = some (.dic false (kvR S0)) ∧ dGet S0 v = none) → ∀ {q' : VK3}, q' (.bl false) g1 → inS false (.str v) w g1 q' := by
    rintro w ⟨a, S0, rfl, e1, e2⟩ q' hq'
    refine in_s e1 ?_
    rw [kvR_get, e2]; exact hq'
  refine go ?_ ?_
  · cases e : dGet Z.S u with
    | none => exact ⟨p, [], rfl, hpp, rfl⟩
    | some a =>
      refine ⟨a.1, a.2, rfl, h.se.row _ _ e, ?_⟩
      unfold ratD at hno
      rw [e] at hno; exact hno
  walk_at "ss"
  refine nl_of (CF := callF P gl (n + 2)) (gl := gl) ?_
  refine hK _ _ ?_
  clear hK K
  refine st_K rfl fun K hK => ?_
  walk_at "ss"
  refine c_isfrac hr ?_
  walk_at "ss"
  have i0 : Bt (0 : Int) 1 := ⟨by decide⟩
  have i1 : Bt (1 : Int) 1 := ⟨by decide⟩
  have i2 : Bt ra Bb := ⟨hr.b1⟩
  have i3 : Bt rb Bb := ⟨hr.b2⟩
  refine c_less (A := 1) (B := 1) (C := Bb) (D := Bb) (by omega) ?_
  have e1 : decide ((0 : Int) * rb < ra * 1) = true := decide_eq_true (by have : 0 < ra := hr.p1; omega)
  rw [e1]
  walk_at "ss"
  refine nl_of (CF := callF P gl (n + 2)) (gl := gl) ?_
  refine hK _ _ ?_
  clear hK K
  refine st_of rfl ?_
  walk_at "ss"
  refine mc_of h.ob rfl ?_
  refine newF ?_
  refine c_note (ws := [u, v]) (by simp; omega) h fun g2 h2 => ?_
  refine st_of rfl ?_
  walk_at "ss"
  refine attr_of h2.ob rfl ?_
  refine ⟨isDic_of h2.se.at_, ?_⟩
  walk_at "ss"
  intro p2 hp2
  refine setd_sdX h2.se h2.sf (by show Z.S.length ≤ _; omega) (fun u r e => by have := hSr u r e; omega) hp2 (v := v) (r := (ra, rb)) fun a S0 g3 hcase hput _ => ?_
  refine st_of rfl ?_
  walk_at "ss"
  refine hput _ fun g4 h4 f4 _ hx4 => ?_
  refine nl_of (CF := callF P gl (n + 2)) (gl := gl) ?_
  exact .inl (hq a S0 g4 hcase (h2.set_se h4 f4 hx4))
theorem c_standin {n : Nat} {lr : Addr} {Z : Gh} {u : Str} {Vs : List Str} (hu : nameR u = true) (hP : Z.Ps.length ≤ 900) (hV : ∀ u v, ratD Z.S u v ≠ none → v ∈ Vs) (hVn : ∀ v ∈ Vs, nameR v = true) (hVl : Vs.length ≤ 6) (hr : ∀ u v r, ratD Z.S u v = some r → RtOk 20 r) (hSr : ∀ u r, dGet Z.S u = some r → r.2.length ≤ 900) {g : G} {x : XK3} {q : VK3} (h : HS lr Z g)
    (hx : ∀ A, WO (ratD Z.S) u 20 A A.length → A.length ≤ 7 → firstF Z.Ps Z.Bl A = none → x 2 [("good", .str u)] g)
    (hq : ∀ A e, WO (ratD Z.S) u 20 A A.length → A.length ≤ 7 → firstF Z.Ps Z.Bl A = some e → q (dueW (some e)) g) : callF P gl (n + 6) 22 [.ref lr, .str u] g x q := by
  refine u22 ?_
  refine st_of rfl ?_
  walk_at "ss"
  refine c_need hu ?_
  refine st_of rfl ?_
  walk_at "ss"
  refine attr_of h.ob rfl ?_
  refine c_out (Bb := 20) (Vs := Vs) (by decide) hV (by omega) (by omega) hr (fun u r e => by have := hSr u r e; omega) h.se fun A w _ => ?_
  have hA : A.length ≤ 7 := by have := w.bound hV; omega
  walk_at "ss"
  refine for_map (f := WD.w) (fun pre post s g' => ∃ (o2 o3 : Option W), s = [some (.ref lr), some (.str u), o2, o3] ∧ g' = g ∧ ∀ e ∈ pre, freeB Z.Ps Z.Bl (endE e) = false) ⟨none, none, rfl, rfl, fun e he => nomatch he⟩ ?_ ?_
  · rintro s g' ⟨o2, o3, rfl, rfl, hpre⟩
    refine ⟨trivial, ?_⟩
    refine st_of rfl ?_
    walk_at "ss"
    have := hx A w hA (by
      unfold firstF
      rw [List.find?_eq_none]
      intro e he z
      rw [hpre e he] at z; cases z)
    exact this
  · rintro e pre post s g' hxx ⟨o2, o3, rfl, rfl, hpre⟩ K hK
    refine ⟨trivial, ?_⟩
    have he : e ∈ A := by rw [hxx]; simp
    obtain ⟨l, el⟩ := last_of (w.ok e he).ne
    have hen : nameR (endE e) = true := by
      rcases w.first he with z | ⟨d, v, r, hd, h3, h4, _⟩
      · rw [z, show endE ([u], (1, 1)) = u from endE_snoc (p := [])]; exact hu
      · rw [endE_of h4]; exact hVn v (hV (endE d) v (by rw [h3]; simp))
    rw [wdE]
    refine ⟨rfl, ?_⟩
    show svs _ _ _ _ [some (.ref lr), some (.str u), some (.lv (e.1.map W.str)), some (.tup [.int e.2.1, .int e.2.2])] _
    have el2 : atI (e.1.map W.str) (-1) = some (.str (endE e)) := by rw [el, List.map_append]; exact last_ix
    refine st_of rfl ?_
    walk_at "ss"
    refine mc_of h.ob rfl ?_
    refine ⟨_, el2, ?_⟩
    refine c_barred hen hP h (fun hf => ?_) (fun L name hL hm hre => ?_)
    · walk_at "ss"
      refine st_of rfl ?_
      walk_at "ss"
      have hfe : firstF Z.Ps Z.Bl A = some e := by
        unfold firstF
        rw [hxx, List.find?_append]
        have : pre.find? (fun e => freeB Z.Ps Z.Bl (endE e)) = none := by
          rw [List.find?_eq_none]
          intro d hd z
          rw [hpre d hd] at z; cases z
        rw [this, Option.none_or, List.find?_cons_of_pos]
        exact freeB_t.mpr hf
      have := hq A e w hA hfe
      first | exact this | exact rt_keep this
    · walk_at "ss"
      refine nl_of (CF := callF P gl (n + 5)) (gl := gl) ?_
      refine hK _ _ ⟨_, _, rfl, rfl, fun d hd => ?_⟩
      rcases List.mem_append.mp hd with hd | hd
      · exact hpre d hd
      · rw [List.mem_singleton.mp hd]
        cases z : freeB Z.Ps Z.Bl (endE e) with
        | false => rfl
        | true => exact absurd hm (freeB_t.mp z name hre)
theorem Lk.get {Ps : List (Str × Str)} : ∀ {L : List Str}, Lk Ps L → ∀ (k : Nat) (a b : Str), L[k]? = some a → L[k + 1]? = some b → (a, b) ∈ Ps
  | [], _, k, a, b, h, _ => by simp at h
  | [_], _, k, a, b, _, h => by simp at h
  | x :: y :: r, h, 0, a, b, h1, h2 => by simp at h1 h2; subst h1 h2; exact h.1
  | x :: y :: r, h, k + 1, a, b, h1, h2 => Lk.get (L := y :: r) h.2 k a b (by simpa using h1) (by simpa using h2)
theorem Way.len {Ps : List (Str × Str)} {good name : Str} {L : List Str} (w : Way Ps good name L) : L.length ≤ Ps.length + 1 := by
  have h := w.hd
  cases L with
  | nil => cases h
  | cons y r =>
    have sub : ∀ z ∈ r, z ∈ Ps.map (·.2) := fun z hz => by
      obtain ⟨i, h1, h2⟩ := List.mem_iff_getElem.mp hz
      have := w.lk.get i _ z (get_lt (xs := y :: r) (k := i) (by simp; omega)) (by rw [List.getElem?_cons_succ, List.getElem?_eq_getElem h1, h2])
      exact List.mem_map.mpr ⟨_, this, rfl⟩
    have := nd_sub (L := Ps.map (·.2)) (S := r) (List.nodup_cons.mp w.nd).2 sub
    simp at this ⊢; omega
theorem in_kvT {g : G} {a : Addr} {lk neg : Bool} {T : List (Str × Str)} {u v : Str} {q : VK3} (h : g a = some (.dit lk (kvT T))) (hq : q (.bl (xor neg (decide ((u, v) ∈ T)))) g) : inS neg (.tup [.str u, .str v]) (.ref a) g q := by
  simp only [inS, h, dicAt, toKeys, toKey, Option.bind_some, Option.map_some]
  have := kvT_get (T := T) (p := (u, v))
  unfold keyP at this
  rw [this]; exact hq
theorem reach_congr {T Ps : List (Str × Str)} (h : ∀ p, p ∈ T ↔ p ∈ Ps) {u y : Str} (r : Reach T u y) : Reach Ps u y := by
  induction r with
  | base => exact .base
  | step _ hm ih => exact .step ih ((h _).mp hm)
theorem freeB_congr {T Ps : List (Str × Str)} {Bs : List Str} (h : ∀ p, p ∈ T ↔ p ∈ Ps) (u : Str) : freeB T Bs u = freeB Ps Bs u := by
  rw [Bool.eq_iff_iff, freeB_t, freeB_t]
  exact ⟨fun f y r => f y (reach_congr (fun p => (h p).symm) r), fun f y r => f y (reach_congr h r)⟩
theorem c_alone {n : Nat} {a0 dd : Addr} {i : Str} {g : G} {x : XK3} {q : VK3} (h : g dd = some (.xd [("good", .str i)])) (hq : q (.bl true) g) : callF P gl (n + 1) 37 [.exc a0 2 (some dd), .exc a0 2 (some dd)] g x q := by
  refine u37 ?_
  refine st_of rfl ?_
  walk_at "ss"
  refine ⟨_, h, ?_⟩
  try walk_at "ss"
  refine nl_of (CF := callF P gl n) (gl := ⟨gl.v, some (a0, 2, some dd), gl.ocs⟩) ?_
  refine st_of rfl ?_
  walk_at "ss"
  refine ⟨_, h, ?_⟩
  try walk_at "ss"
  refine ⟨_, h, ?_⟩
  try walk_at "ss"
  first | exact rt_keep hq | exact hq
theorem ratD_rt {D : SDt} {M : PM} {L : List Str} {Bb : Nat} (o : PmOk L Bb M) (h : ∀ u v, ratD D u v = dGet M (u, v)) : (∀ u v, ratD D u v ≠ none → v ∈ L) ∧ ∀ u v r, ratD D u v = some r → RtOk Bb r := by
  refine ⟨fun u v hv => ?_, fun u v r hv => ?_⟩
  · rw [h] at hv
    cases e : dGet M (u, v) with
    | none => exact absurd e hv
    | some r => exact (o.m1 _ (dGet_mem e)).2
  · rw [h] at hv
    exact o.ok _ (dGet_mem hv)
structure Cp (L : List Str) (k : Nat) (Z : Gh) : Prop where
  nn : Z.Nm.Nodup
  n6 : ∀ x ∈ Z.Nm, x ∈ L
  pp : ∀ u v, (u, v) ∈ Z.Ps → ∃ i j : Nat, i < j ∧ L[i]? = some u ∧ L[j]? = some v
  pt : ∀ p, p ∈ Z.T ↔ p ∈ Z.Ps
  pl : Z.Ps.length ≤ k
  tl : Z.T.length ≤ k
  bb : Z.Bl = Z.Bw
  bn : Z.Bw.Nodup
  b6 : ∀ x ∈ Z.Bw, x ∈ L
  pm : PmOk L 20 Z.M
  ml : Z.M.length ≤ k
  rm : ∀ u v, ratD Z.S u v = dGet Z.M (u, v)
  sl : Z.S.length ≤ k
  sr : ∀ u r, dGet Z.S u = some r → r.2.length ≤ k
structure Nms (L : List Str) : Prop where
  nm : ∀ w ∈ L, nameR w = true
  len : L.length ≤ 6
  two : 2 ≤ L.length
  nd : L.Nodup
section
variable {n k : Nat} {lr : Addr} {Z : Gh} {u : Str} {L : List Str} {g : G} {x : XK3} {q : VK3}
noncomputable def dueZ (Z : Gh) (A : List Ent) : Option Ent := firstF Z.T Z.Bw A
theorem dueZ_eq (C : Cp L k Z) (A : List Ent) : firstF Z.Ps Z.Bl A = dueZ Z A := by
  unfold dueZ firstF
  congr 1
  funext e
  rw [C.bb, freeB_congr C.pt]
theorem c_asked (N : Nms L) (C : Cp L k Z) (hk : k ≤ 60) (hu : u ∈ L) (h : HS lr Z g) (hq : ∀ A, WO (ratD Z.S) u 20 A A.length → A.length ≤ 7 → q (dueW (dueZ Z A)) g) : callF P gl (n + 7) 31 [.ref lr, .str u] g x q := by
  refine u31 ?_
  have hV : ∀ u v, ratD Z.S u v ≠ none → v ∈ L := (ratD_rt C.pm C.rm).1
  have hr : ∀ u v r, ratD Z.S u v = some r → RtOk 20 r := (ratD_rt C.pm C.rm).2
  refine st_of rfl ?_
  walk_at "ss"
  refine st_of rfl ?_
  walk_at "ss"
  refine mc_of h.ob rfl ?_
  refine c_standin (Vs := L) (N.nm u hu) (by have := C.pl; omega) hV N.nm N.len hr (fun u r e => by have := C.sr u r e; omega) h (fun A w hA hf => ?_) (fun A e w hA hf => ?_)
  · walk_at "ss"
    intro a ha dd hdd
    have hdn : g dd = none := by
      cases e : g dd with
      | none => rfl
      | some o => obtain ⟨l, rfl⟩ := hdd o e; exact absurd e (h.nx dd l)
    have hqq := hq A w hA
    rw [← dueZ_eq C, hf] at hqq
    refine st_of rfl ?_
    walk_at "ss"
    refine c_alone gup_same ?_
    walk_at "ss"
    refine ⟨_, .str u, gup_same, rfl, ?_⟩
    walk_at "ss"
    refine ⟨_, .str u, gup_same, rfl, ?_⟩
    walk_at "ss"
    refine st_of rfl ?_
    walk_at "ss"
    refine rt_drop (fun b o hb => ?_) hqq
    rw [gup_ne (fun z => by rw [z, hdn] at hb; cases hb)]
    exact hb
  · have hqq := hq A w hA
    rw [← dueZ_eq C, hf] at hqq
    refine nl_of (CF := callF P gl (n + 6)) (gl := gl) ?_
    try dsimp only
    repeat (refine nl_of ?_; try dsimp only)
    refine st_of rfl ?_
    walk_at "ss"
    first | exact hqq | exact rt_keep hqq
theorem c_givenso (N : Nms L) (C : Cp L k Z) (hk : k ≤ 60) (hu : u ∈ L) (h : HS lr Z g) (hq : ∀ A, WO (ratD Z.S) u 20 A A.length → A.length ≤ 7 → q (.bl true) g) : callF P gl (n + 8) 32 [.ref lr, .ref Z.pa, .ref Z.sa, .ref Z.ba, .str u] g x q := by
  refine u32 ?_
  refine st_of rfl ?_
  walk_at "ss"
  refine c_asked N C hk hu h fun A w hA => ?_
  have hq := hq A w hA
  refine st_of rfl ?_
  walk_at "ss"
  have hBl : Z.Bw.length ≤ 6 := Nat.le_trans (nd_sub C.bn C.b6) N.len
  refine c_ldue C.pm (by decide) (by decide) C.rm w hA (by have := C.tl; omega) (by omega) h.tp h.bw h.ts ?_
  show svs _ _ _ _ [some (.ref lr), some (.ref Z.pa), some (.ref Z.sa), some (.ref Z.ba), some (.str u), some (dueW (dueZ Z A)), some (dueW (dueZ Z A)), none] _
  cases dueZ Z A with
  | none =>
    refine st_of rfl ?_
    show sv _ _ _ _ [some (.ref lr), some (.ref Z.pa), some (.ref Z.sa), some (.ref Z.ba), some (.str u), some .non, some .non, none] _
    walk_at "ss"
    refine st_of rfl ?_
    walk_at "ss"
    first | exact hq | exact rt_keep hq
  | some e =>
    refine st_of rfl ?_
    show sv _ _ _ _ [some (.ref lr), some (.ref Z.pa), some (.ref Z.sa), some (.ref Z.ba), some (.str u), some (.tup [.lv (e.1.map W.str), .tup [.int e.2.1, .int e.2.2]]), some (.tup [.lv (e.1.map W.str), .tup [.int e.2.1, .int e.2.2]]), none] _
    walk_at "ss"
    refine nl_of (CF := callF P gl (n + 7)) (gl := gl) ?_
    refine st_of rfl ?_
    walk_at "ss"
    refine nl_of (CF := callF P gl (n + 7)) (gl := gl) ?_
    refine st_of rfl ?_
    walk_at "ss"
    refine lc_pure (α := Int) (f := W.int) (c := fun _ => false) (e := W.int) trivial [e.2.1, e.2.2] [] (fun z _ k hk => ?_) (fun z _ hz => by cases hz) (by simp) ?_
    · walk_at "ss"
      exact hk
    · refine newF ?_
      refine newF ?_
      refine eqS_w (α := List Int) (x := []) (y := []) (by decide) ?_
      refine ⟨_, rfl, ?_⟩
      rw [if_neg (by decide)]
      refine nl_of (CF := callF P gl (n + 7)) (gl := gl) ?_
      refine st_of rfl ?_
      walk_at "ss"
      refine eqS_w (α := Ent) (x := e) (y := e) (by decide) ?_
      try rw [xor_f]
      rw [decide_eq_true rfl]
      first | exact hq | exact rt_keep hq
theorem c_barredso (N : Nms L) (C : Cp L k Z) (hk : k ≤ 60) (hu : u ∈ L) (h : HS lr Z g) (hq : q (.bl true) g) : callF P gl (n + 4) 33 [.ref lr, .ref Z.pa, .ref Z.ba, .str u] g x q := by
  refine u33 ?_
  refine st_of rfl ?_
  walk_at "ss"
  refine mc_of h.ob rfl ?_
  have hBl : Z.Bw.length ≤ 6 := Nat.le_trans (nd_sub C.bn C.b6) N.len
  have hfr : freeB Z.T Z.Bw u = freeB Z.Ps Z.Bl u := by rw [C.bb, freeB_congr C.pt]
  refine c_barred (N.nm u hu) (by have := C.pl; omega) h (fun hf => ?_) (fun W_ name hL hm hre => ?_)
  · refine st_of rfl ?_
    walk_at "ss"
    refine c_lfree (by have := C.tl; omega) (by omega) h.tp h.bw ?_
    rw [hfr, freeB_t.mpr hf]
    walk_at "ss"
    refine st_of rfl ?_
    walk_at "ss"
    first | exact hq | exact rt_keep hq
  · refine st_K rfl fun K hK => ?_
    walk_at "ss"
    refine c_lfree (by have := C.tl; omega) (by omega) h.tp h.bw ?_
    have hff : freeB Z.T Z.Bw u = false := by
      rw [hfr]
      cases z : freeB Z.Ps Z.Bl u with
      | false => rfl
      | true => exact absurd hm (freeB_t.mp z name hre)
    rw [hff]
    walk_at "ss"
    refine nl_of (CF := callF P gl (n + 3)) (gl := gl) ?_
    refine hK _ _ ?_
    clear hK K
    obtain ⟨L0, eL0⟩ : ∃ r, W_ = u :: r := by
      have := hL.hd
      cases W_ with
      | nil => cases this
      | cons y r => simp at this; subst this; exact ⟨r, rfl⟩
    obtain ⟨L1, eL1⟩ : ∃ r, W_ = r ++ [name] := List.getLast?_eq_some_iff.mp hL.lst
    have hlen := hL.len
    have hpl := C.pl
    refine st_K rfl fun K hK => ?_
    walk_at "ss"
    refine eqS_w (α := List Str) (x := W_) (y := ([] : List Str)) (by decide) ?_
    walk_at "ss"
    rw [if_neg (by rw [eL0]; simp)]
    refine ixV_m (f := W.str) (k := 0) (by rw [eL0]; rfl) ?_
    walk_at "ss"
    refine ⟨.str name, by rw [eL1, List.map_append]; exact last_ix, ?_⟩
    refine in_dicS h.bw ?_
    rw [C.bb] at hm
    rw [decide_eq_true hm]
    walk_at "ss"
    refine nl_of (CF := callF P gl (n + 3)) (gl := gl) ?_
    refine hK _ _ ?_
    clear hK K
    refine st_of rfl ?_
    walk_at "ss"
    have hL1 : 1 ≤ W_.length := by rw [eL0]; simp
    rw [List.length_map, show (W_.length : Int) - 1 = ((W_.length - 1 : Nat) : Int) by omega]
    refine ⟨small_len (by omega), ?_⟩
    rw [Int.toNat_natCast]
    refine for_rng (fun k s g4 => ∃ o5, s = [some (.ref lr), some (.ref Z.pa), some (.ref Z.ba), some (.str u), some (.lv (W_.map W.str)), o5] ∧ g4 = g) ⟨none, rfl, rfl⟩ ?_ ?_
    · rintro s g4 ⟨o5, rfl, rfl⟩
      refine ⟨trivial, ?_⟩
      refine st_of rfl ?_
      walk_at "ss"
      first | exact hq | exact rt_keep hq
    · rintro j s g4 hj ⟨o5, rfl, rfl⟩ K hK
      refine ⟨trivial, ?_⟩
      show svs _ _ _ _ [some (.ref lr), some (.ref Z.pa), some (.ref Z.ba), some (.str u), some (.lv (W_.map W.str)), some (.int (0 + (j : Nat)))] _
      rw [Int.zero_add]
      obtain ⟨a, ha⟩ : ∃ a, W_[j]? = some a := ⟨_, List.getElem?_eq_getElem (by omega)⟩
      obtain ⟨b, hb⟩ : ∃ b, W_[j + 1]? = some b := ⟨_, List.getElem?_eq_getElem (by omega)⟩
      have hab := (C.pt _).mpr (hL.lk.get j a b ha hb)
      refine st_of rfl ?_
      walk_at "ss"
      refine ixV_m (f := W.str) ha ?_
      rw [show (j : Int) + 1 = ((j + 1 : Nat) : Int) by omega]
      refine ixV_m (f := W.str) hb ?_
      refine in_kvT h.tp ?_
      rw [decide_eq_true hab]
      walk_at "ss"
      refine nl_of (CF := callF P gl (n + 3)) (gl := gl) ?_
      exact hK _ _ ⟨_, rfl, rfl⟩
theorem c_right (N : Nms L) (C : Cp L k Z) (hk : k ≤ 60) (hu : u ∈ L) (h : HS lr Z g) (hq : ∀ A, WO (ratD Z.S) u 20 A A.length → A.length ≤ 7 → q (.bl true) g) : callF P gl (n + 9) 34 [.ref lr, .ref Z.pa, .ref Z.sa, .ref Z.ba, .str u] g x q := by
  refine u34 ?_
  refine st_of rfl ?_
  walk_at "ss"
  refine c_barredso N C hk hu h ?_
  walk_at "ss"
  refine nl_of (CF := callF P gl (n + 8)) (gl := gl) ?_
  refine st_of rfl ?_
  walk_at "ss"
  refine c_givenso N C hk hu h fun A w hA => ?_
  exact rt_keep (hq A w hA)
end
theorem c_ratio {n : Nat} {cl : Int} {g : G} {x : XK3} {q : VK3} (h : ∀ r : Rt, RtOk 20 r → q (ratW r) g) : callF P gl (n + 3) 27 [.int cl] g x q := by
  refine u27 ?_
  refine st_of rfl ?_
  walk_at "ss"
  have p1 := Int.fmod_nonneg_of_pos (cl.fmod 1000003 * 48271) (b := 999983) (by decide)
  have p2 := Int.fmod_lt_of_pos (cl.fmod 1000003 * 48271) (b := 999983) (by decide)
  generalize (cl.fmod 1000003 * 48271).fmod 999983 = nb at *
  refine st_of rfl ?_
  walk_at "ss"
  have q1 := Int.fmod_nonneg_of_pos (nb * 31) (b := 997) (by decide)
  have q2 := Int.fmod_lt_of_pos (nb * 31) (b := 997) (by decide)
  have e20 : (2 : Nat) ^ 20 = 1048576 := by decide
  have i1 : Bt (1 + nb) 20 := ⟨by omega⟩
  have i2 : Bt (1 + (nb * 31).fmod 997) 20 := ⟨by omega⟩
  refine c_lowest (A := 20) (B := 20) (by omega) (by decide) fun t u L => ?_
  have := h (t, u) (low_rt L (by omega) (by omega) i1.lt i2.lt)
  first | exact rt_keep this | exact this
theorem reach_up {Ps : List (Str × Str)} {L : List Str} (pp : ∀ u v, (u, v) ∈ Ps → ∃ i j : Nat, i < j ∧ L[i]? = some u ∧ L[j]? = some v) {v y : Str} (hr : Reach Ps v y) : ∀ j : Nat, L[j]? = some v → L.Nodup → ∃ j' : Nat, j ≤ j' ∧ L[j']? = some y := by
  induction hr with
  | base => exact fun j hj _ => ⟨j, Nat.le_refl _, hj⟩
  | step _ hm ih =>
    intro j hj nd
    obtain ⟨j1, h1, h2⟩ := ih j hj nd
    obtain ⟨i, j2, h3, h4, h5⟩ := pp _ _ hm
    have := get_uniq nd h2 h4
    exact ⟨j2, by omega, h5⟩
theorem put_kvT {g : G} {a : Addr} {T : List (Str × Str)} {u v : Str} {K : G → Prop} (h : g a = some (.dit false (kvT T))) (hl : T.length ≤ 100000) (hK : K (gup g a (.dit false (kvT (if (u, v) ∈ T then T else T ++ [(u, v)]))))) : putS (.ref a) (.tup [.str u, .str v]) (.bl true) g K := by
  simp only [putS, h, toKeys, toKey, Option.bind_some, Option.map_some]
  refine ⟨small_line (by unfold kvT; rw [List.length_map]; exact hl), ?_⟩
  have := kvT_put (T := T) (p := (u, v))
  unfold keyP at this
  rw [this]; exact hK
theorem dpop2_S {g : G} {a : Addr} {S : List Str} {u : Str} {q : VK3} (h : g a = some (.dic false (kvS S))) (nd : S.Nodup) (hq : ∀ w, q w (gup g a (.dic false (kvS (S.erase u))))) : dpop2S (.ref a) (.str u) .non g q := by
  simp only [dpop2S, h, toKey]
  by_cases c : u ∈ S
  · obtain ⟨v, hv⟩ : ∃ v, dGet (kvS S) (.inr u) = some v := by
      have := kvS_get (S := S) (s := u)
      rw [decide_eq_true c] at this
      exact Option.isSome_iff_exists.mp this
    rw [hv, kvS_del nd]; exact hq _
  · have : dGet (kvS S) (.inr u) = none := by
      have := kvS_get (S := S) (s := u)
      rw [decide_eq_false c] at this
      exact Option.isNone_iff_eq_none.mp (by simpa using this)
    rw [this]
    have h2 := hq .non
    rw [List.erase_of_not_mem c, gup_eta h] at h2
    exact h2
section
variable {n k : Nat} {lr : Addr} {Z : Gh} {u : Str} {L : List Str} {g : G} {x : XK3} {q : VK3}
theorem c_deed {cl : Int} (N : Nms L) (C : Cp L k Z) (hk : k ≤ 50) (h : HS lr Z g) (hq : ∀ Z' g', Cp L (k + 1) Z' → HS lr Z' g' → Z'.pa = Z.pa → Z'.sa = Z.sa → Z'.ba = Z.ba → q .non g') :
    callF P gl (n + 8) 35 [.ref lr, .ref Z.pa, .ref Z.sa, .ref Z.ba, .lv (L.map W.str), .int cl] g x q := by
  have h2 := N.two
  have h6 := N.len
  refine u35 ?_
  refine st_of rfl ?_
  walk_at "ss"
  have w0 := fm_bd cl (b := 8) (by decide)
  generalize cl.fmod 8 = way at *
  refine st_of rfl ?_
  walk_at "ss"
  rw [List.length_map]
  refine mod_of (by omega) ?_
  obtain ⟨a, ha, ea⟩ := mod_nat (cl.fdiv 8) (m := L.length) (by omega)
  rw [ea]
  refine st_of rfl ?_
  walk_at "ss"
  rw [List.length_map]
  have hbL : Bt (L.length : Int) 10 := ⟨by rw [show (2 : Nat) ^ 10 = 1024 by decide]; omega⟩
  refine fd_of (b := 10) (by omega) (by decide) ?_
  refine mod_of (by omega) ?_
  obtain ⟨b, hb, eb⟩ := mod_nat ((cl.fdiv 8).fdiv (L.length : Int)) (m := L.length) (by omega)
  rw [eb]
  refine st_of rfl ?_
  walk_at "ss"
  have emin : (if (b : Int) < (a : Int) then (b : Int) else (a : Int)) = ((min a b : Nat) : Int) := by
    split <;> omega
  rw [emin]
  obtain ⟨u, hu⟩ : ∃ u, L[min a b]? = some u := ⟨_, List.getElem?_eq_getElem (by omega)⟩
  obtain ⟨v, hv⟩ : ∃ v, L[max a b]? = some v := ⟨_, List.getElem?_eq_getElem (by omega)⟩
  obtain ⟨s, hs⟩ : ∃ s, L[a]? = some s := ⟨_, List.getElem?_eq_getElem (by omega)⟩
  obtain ⟨t, ht⟩ : ∃ t, L[b]? = some t := ⟨_, List.getElem?_eq_getElem (by omega)⟩
  have uL := List.mem_of_getElem? hu
  have vL := List.mem_of_getElem? hv
  have sL := List.mem_of_getElem? hs
  have tL := List.mem_of_getElem? ht
  have hNm : Z.Nm.length ≤ 6 := Nat.le_trans (nd_sub C.nn C.n6) N.len
  have hBw : Z.Bw.length ≤ 6 := Nat.le_trans (nd_sub C.bn C.b6) N.len
  have hpl := C.pl
  have htl := C.tl
  have hml := C.ml
  have hsl := C.sl
  refine ixV_m (f := W.str) hu ?_
  refine st_of rfl ?_
  walk_at "ss"
  have emax : (if (a : Int) < (b : Int) then (b : Int) else (a : Int)) = ((max a b : Nat) : Int) := by
    split <;> omega
  try rw [emax]
  refine ixV_m (f := W.str) hv ?_
  refine st_of rfl ?_
  walk_at "ss"
  have dpart : ∀ D : Ends3, (∀ s g1, rtS g q .non g1 → D.nx s g1) → a ≠ b → svs (callF P gl (n + 7)) gl b35_6 D [some (.ref lr), some (.ref Z.pa), some (.ref Z.sa), some (.ref Z.ba), some (.lv (L.map W.str)), some (.int cl), some (.int way), some (.int a), some (.int b), some (.str u), some (.str v), none] g := by
    intro D hD hab
    refine st_of rfl ?_
    walk_at "ss"
    refine mc_of h.ob rfl ?_
    refine c_part (N.nm u uL) (N.nm v vL) ?_ (by omega) (by omega) h fun D' g1 h1 => ?_
    · intro hr
      obtain ⟨j, hj, ej⟩ := reach_up C.pp hr (max a b) hv N.nd
      have := get_uniq N.nd hu ej
      omega
    refine st_of rfl ?_
    walk_at "ss"
    refine put_kvT h1.tp (by show Z.T.length ≤ _; omega) ?_
    refine nl_of (CF := callF P gl (n + 7)) (gl := gl) ?_
    refine hD _ _ (.inl (hq _ _ ?_ (h1.set_tp _) rfl rfl rfl))
    exact ⟨addS_nd (addS_nd C.nn), fun x hx => by
        rcases addS_mem.mp hx with hx | rfl
        · rcases addS_mem.mp hx with hx | rfl
          · exact C.n6 x hx
          · exact uL
        · exact vL, fun y z hyz => by
        rcases List.mem_append.mp hyz with hyz | hyz
        · exact C.pp y z hyz
        · have := List.mem_singleton.mp hyz
          injection this with e1 e2
          subst e1 e2
          exact ⟨min a b, max a b, by omega, hu, hv⟩, fun p => by
        show p ∈ (if (u, v) ∈ Z.T then Z.T else Z.T ++ [(u, v)]) ↔ p ∈ Z.Ps ++ [(u, v)]
        rw [List.mem_append, List.mem_singleton, ← C.pt]
        split
        · exact ⟨.inl, fun z => z.elim id fun z => by subst z; assumption⟩
        · simp, by show (Z.Ps ++ [(u, v)]).length ≤ _; simp; omega, by
        show (if (u, v) ∈ Z.T then Z.T else Z.T ++ [(u, v)]).length ≤ _
        split
        · omega
        · rw [List.length_append, List.length_singleton]; omega, C.bb, C.bn, C.b6, C.pm, by show Z.M.length ≤ _; omega, C.rm, by show Z.S.length ≤ _; omega, fun u r e => by have := C.sr u r e; omega⟩
  have dstand : ∀ D : Ends3, (∀ s g1, rtS g q .non g1 → D.nx s g1) → a ≠ b → dGet Z.M (s, t) = none → svs (callF P gl (n + 7)) gl b35_9 D [some (.ref lr), some (.ref Z.pa), some (.ref Z.sa), some (.ref Z.ba), some (.lv (L.map W.str)), some (.int cl), some (.int way), some (.int a), some (.int b), some (.str u), some (.str v), none] g := by
    intro D hD hab hno
    have hst : s ≠ t := fun z => hab (get_uniq N.nd hs (by rw [z]; exact ht))
    refine st_of rfl ?_
    walk_at "ss"
    refine c_ratio fun r hr => ?_
    refine st_of rfl ?_
    walk_at "ss"
    refine mc_of h.ob rfl ?_
    refine ixV_m (f := W.str) hs ?_
    refine ixV_m (f := W.str) ht ?_
    refine c_stand (Bb := 20) (by decide) (by decide) (N.nm s sL) (N.nm t tL) hst (by rw [C.rm]; exact hno) hr (by omega) (fun u r e => by have := C.sr u r e; omega) (by omega) h fun ad S0 g1 hc h1 => ?_
    refine st_of rfl ?_
    walk_at "ss"
    refine ixV_m (f := W.str) hs ?_
    refine ixV_m (f := W.str) ht ?_
    refine put_pm h1.ts (by show Z.M.length ≤ _; omega) ?_
    refine nl_of (CF := callF P gl (n + 7)) (gl := gl) ?_
    refine hD _ _ (.inl (hq _ _ ?_ (h1.set_ts _) rfl rfl rfl))
    have lM := dPut_len (l := Z.M) (k := (s, t)) (v := r)
    have lS := dPut_len (l := Z.S) (k := s) (v := (ad, dPut S0 t r))
    exact ⟨addS_nd (addS_nd C.nn), fun x hx => by
        rcases addS_mem.mp hx with hx | rfl
        · rcases addS_mem.mp hx with hx | rfl
          · exact C.n6 x hx
          · exact sL
        · exact tL, C.pp, C.pt, by show Z.Ps.length ≤ _; omega, by show Z.T.length ≤ _; omega, C.bb, C.bn, C.b6, C.pm.put (by omega) sL tL hr, by show (dPut Z.M (s, t) r).length ≤ _; omega, fun x y => by
        show ratD (dPut Z.S s (ad, dPut S0 t r)) x y = dGet (dPut Z.M (s, t) r) (x, y)
        rw [ratD_put hc, dGet_put, C.rm]
        by_cases c : x = s ∧ y = t
        · rw [if_pos c, if_pos (by rw [c.1, c.2])]
        · rw [if_neg c, if_neg (fun z => c (by injection z with z1 z2; exact ⟨z1, z2⟩))], by show (dPut Z.S s (ad, dPut S0 t r)).length ≤ _; omega, fun y z hz => by
        have hz : dGet (dPut Z.S s (ad, dPut S0 t r)) y = some z := hz
        rw [dGet_put] at hz
        split at hz
        · injection hz with hz
          subst hz
          have l0 := dPut_len (l := S0) (k := t) (v := r)
          show (dPut S0 t r).length ≤ _
          rcases hc with hc | ⟨_, rfl⟩
          · have := C.sr _ _ hc
            have : S0.length ≤ k := this
            omega
          · simp at l0; omega
        · have := C.sr _ _ hz; omega⟩
  have dbar : ∀ D : Ends3, (∀ s g1, rtS g q .non g1 → D.nx s g1) → svs (callF P gl (n + 7)) gl b35_13 D [some (.ref lr), some (.ref Z.pa), some (.ref Z.sa), some (.ref Z.ba), some (.lv (L.map W.str)), some (.int cl), some (.int way), some (.int a), some (.int b), some (.str u), some (.str v), none] g := by
    intro D hD
    refine st_of rfl ?_
    walk_at "ss"
    refine mc_of h.ob rfl ?_
    refine ixV_m (f := W.str) hs ?_
    refine c_bar (N.nm s sL) (by omega) (by rw [C.bb]; omega) h fun g1 h1 => ?_
    refine st_of rfl ?_
    walk_at "ss"
    refine ixV_m (f := W.str) hs ?_
    refine put_dicS h1.bw (by show Z.Bw.length ≤ _; omega) ?_
    refine nl_of (CF := callF P gl (n + 7)) (gl := gl) ?_
    refine hD _ _ (.inl (hq _ _ ?_ (h1.set_bw (addS Z.Bw s)) rfl rfl rfl))
    exact ⟨addS_nd C.nn, fun x hx => by
        rcases addS_mem.mp hx with hx | rfl
        · exact C.n6 x hx
        · exact sL, C.pp, C.pt, by show Z.Ps.length ≤ _; omega, by show Z.T.length ≤ _; omega, by show addS Z.Bl s = addS Z.Bw s; rw [C.bb], addS_nd C.bn, fun x hx => by
        rcases addS_mem.mp hx with hx | rfl
        · exact C.b6 x hx
        · exact sL, C.pm, by show Z.M.length ≤ _; omega, C.rm, by show Z.S.length ≤ _; omega, fun u r e => by have := C.sr u r e; omega⟩
  have same : Cp L (k + 1) Z := ⟨C.nn, C.n6, C.pp, C.pt, by omega, by omega, C.bb, C.bn, C.b6, C.pm, by omega, C.rm, by omega, fun u r e => by have := C.sr u r e; omega⟩
  have dallow : ∀ D : Ends3, (∀ s g1, rtS g q .non g1 → D.nx s g1) → svs (callF P gl (n + 7)) gl b35_16 D [some (.ref lr), some (.ref Z.pa), some (.ref Z.sa), some (.ref Z.ba), some (.lv (L.map W.str)), some (.int cl), some (.int way), some (.int a), some (.int b), some (.str u), some (.str v), none] g := by
    intro D hD
    refine st_of rfl ?_
    walk_at "ss"
    refine mc_of h.ob rfl ?_
    refine ixV_m (f := W.str) hs ?_
    refine c_allow (N.nm s sL) (by rw [C.bb]; exact C.bn) h fun g1 h1 => ?_
    refine st_of rfl ?_
    walk_at "ss"
    refine ⟨isDic_of h1.bw, ?_⟩
    refine ixV_m (f := W.str) hs ?_
    walk_at "ss"
    have cp2 : Cp L (k + 1) { Z with Bl := Z.Bl.erase s, Bw := Z.Bw.erase s } := ⟨C.nn, C.n6, C.pp, C.pt, by show Z.Ps.length ≤ _; omega, by show Z.T.length ≤ _; omega, by show Z.Bl.erase s = Z.Bw.erase s; rw [C.bb], C.bn.erase _, fun x hx => C.b6 x (List.mem_of_mem_erase hx), C.pm, by show Z.M.length ≤ _; omega, C.rm, by show Z.S.length ≤ _; omega, fun u r e => by have := C.sr u r e; omega⟩
    refine dpop2_S h1.bw C.bn fun _ => ?_
    refine nl_of (CF := callF P gl (n + 7)) (gl := gl) ?_
    exact hD _ _ (.inl (hq _ _ cp2 (h1.set_bw (Z.Bw.erase s)) rfl rfl rfl))
  have d15 : ∀ D : Ends3, (∀ s g1, rtS g q .non g1 → D.nx s g1) → svs (callF P gl (n + 7)) gl b35_15 D [some (.ref lr), some (.ref Z.pa), some (.ref Z.sa), some (.ref Z.ba), some (.lv (L.map W.str)), some (.int cl), some (.int way), some (.int a), some (.int b), some (.str u), some (.str v), none] g := by
    intro D hD
    refine st_K rfl fun K hK => ?_
    walk_at "ss"
    have hK2 : ∀ s g1, rtS g q .non g1 → K s g1 := fun s g1 hh => hK s g1 (nl_of (CF := callF P gl (n + 7)) (gl := gl) (hD _ _ hh))
    by_cases c : way = 7
    · rw [if_pos c]
      exact dallow _ hK2
    · rw [if_neg c]
      refine nl_of (CF := callF P gl (n + 7)) (gl := gl) ?_
      exact hK2 _ _ (.inl (hq Z g same h rfl rfl rfl))
  have d12 : ∀ D : Ends3, (∀ s g1, rtS g q .non g1 → D.nx s g1) → svs (callF P gl (n + 7)) gl b35_12 D [some (.ref lr), some (.ref Z.pa), some (.ref Z.sa), some (.ref Z.ba), some (.lv (L.map W.str)), some (.int cl), some (.int way), some (.int a), some (.int b), some (.str u), some (.str v), none] g := by
    intro D hD
    refine st_K rfl fun K hK => ?_
    walk_at "ss"
    have hK2 : ∀ s g1, rtS g q .non g1 → K s g1 := fun s g1 hh => hK s g1 (nl_of (CF := callF P gl (n + 7)) (gl := gl) (hD _ _ hh))
    by_cases c : way = 5
    · rw [if_pos c]
      exact dbar _ hK2
    · rw [if_neg c]
      by_cases c2 : way = 6
      · rw [if_pos c2]
        exact dbar _ hK2
      · rw [if_neg c2]
        exact d15 _ hK2
  have d8 : ∀ D : Ends3, (∀ s g1, rtS g q .non g1 → D.nx s g1) → svs (callF P gl (n + 7)) gl b35_8 D [some (.ref lr), some (.ref Z.pa), some (.ref Z.sa), some (.ref Z.ba), some (.lv (L.map W.str)), some (.int cl), some (.int way), some (.int a), some (.int b), some (.str u), some (.str v), none] g := by
    intro D hD
    refine st_K rfl fun K hK => ?_
    walk_at "ss"
    have hK2 : ∀ s g1, rtS g q .non g1 → K s g1 := fun s g1 hh => hK s g1 (nl_of (CF := callF P gl (n + 7)) (gl := gl) (hD _ _ hh))
    by_cases c : way < 5
    · rw [if_pos c]
      by_cases c2 : (a : Int) = (b : Int)
      · rw [if_neg (fun z => z c2)]
        exact d12 _ hK2
      · rw [if_pos c2]
        refine ixV_m (f := W.str) hs ?_
        refine ixV_m (f := W.str) ht ?_
        refine in_pm h.ts ?_
        refine ⟨_, rfl, ?_⟩
        cases e : dGet Z.M (s, t) with
        | none =>
          rw [if_pos (by rfl)]
          exact dstand _ hK2 (by omega) e
        | some r =>
          rw [if_neg (by simp)]
          exact d12 _ hK2
    · rw [if_neg c]
      exact d12 _ hK2
  by_cases c : way < 2
  · rw [if_pos c]
    by_cases c2 : (a : Int) = (b : Int)
    · rw [if_neg (fun z => z c2)]
      exact d8 _ fun s g1 hh => hh
    · rw [if_pos c2]
      exact dpart _ (fun s g1 hh => hh) (by omega)
  · rw [if_neg c]
    exact d8 _ fun s g1 hh => hh
end
theorem for_enum {tg : T3} {ok : G → Prop} {tb : TS3} {D : Ends3} {xs : List W} {s : Sx} {g : G} (I : Nat → Sx → G → Prop) (h0 : I 0 s g) (hend : ∀ s g, I xs.length s g → ok g ∧ D.nx s g)
    (hstep : ∀ (k : Nat) (x : W) s g, xs[k]? = some x → I k s g → ∀ K : Sx → G → Prop, (∀ s' g', I (k + 1) s' g' → K s' g') → ok g ∧ asg tg (.tup [.int (k : Nat), x]) s g fun s2 => tb { nx := K, ct := K, bk := D.nx, rt := D.rt, ex := D.ex } s2 g) :
    forI tg ok tb D (enumW xs) s g := by
  have hen : (enumW xs).length = xs.length := by simp [enumW]
  refine for_ind (fun rest s g => ∃ k, k ≤ xs.length ∧ rest = (enumW xs).drop k ∧ I k s g) ?_ ?_ _ _ _ ⟨0, Nat.zero_le _, rfl, h0⟩
  · rintro s g ⟨k, hk, e, h⟩
    have : k = xs.length := by
      rcases Nat.lt_or_ge k xs.length with z | z
      · have : ((enumW xs).drop k).length = 0 := by rw [← e]; rfl
        rw [List.length_drop, hen] at this
        omega
      · omega
    subst this
    exact hend s g h
  · rintro y ys s g ⟨k, hk, e, h⟩ K hK
    rcases Nat.lt_or_ge k xs.length with c | c
    · rw [List.drop_eq_getElem_cons (by rw [hen]; exact c)] at e
      injection e with e2 e3
      have e4 : (enumW xs)[k]'(by rw [hen]; exact c) = .tup [.int (k : Int), xs[k]] := by simp [enumW]
      rw [e4] at e2
      subst e2
      exact hstep k _ s g (List.getElem?_eq_getElem c) h K fun s' g' h' => hK s' g' ⟨k + 1, c, e3, h'⟩
    · rw [List.drop_eq_nil_of_le (by rw [hen]; exact c)] at e; cases e
theorem lstep {g : G} {lr p : Addr} {fs fs' : List (Str × W)} (h : g lr = some (.ins 0 fs)) (hp : g p = none) (hn : noX g) :
    gup (gup g p (.dic false [])) lr (.ins 0 fs') lr = some (.ins 0 fs') ∧ gup (gup g p (.dic false [])) lr (.ins 0 fs') p = some (.dic false []) ∧ (∀ a, g a = some (.dic false []) → a ≠ p ∧ gup (gup g p (.dic false [])) lr (.ins 0 fs') a = some (.dic false [])) ∧ noX (gup (gup g p (.dic false [])) lr (.ins 0 fs')) := by
  have n1 : lr ≠ p := ne_free h hp
  refine ⟨gup_same, by rw [gup_ne n1.symm]; exact gup_same, fun a ha => ?_, (hn.up fun _ => by simp).up fun _ => by simp⟩
  have n2 : a ≠ p := ne_free ha hp
  have n3 : a ≠ lr := fun z => by rw [z, h] at ha; cases ha
  exact ⟨n2, by rw [gup_ne n3, gup_ne n2]; exact ha⟩
theorem c_linit {n : Nat} {lr : Addr} {g : G} {x : XK3} {q : VK3} (h : g lr = some (.ins 0 [])) (hn : noX g) (hq : ∀ g' pd sd bd nd, g' lr = some (.ins 0 [("parts", .ref pd), ("stands", .ref sd), ("bars", .ref bd), ("names", .ref nd)]) → g' pd = some (.dic false []) → g' sd = some (.dic false []) → g' bd = some (.dic false []) → g' nd = some (.dic false []) → (sd ≠ pd ∧ bd ≠ pd ∧ bd ≠ sd ∧ nd ≠ pd ∧ nd ≠ sd ∧ nd ≠ bd) → noX g' → q .non g') :
    callF P gl (n + 1) 13 [.ref lr] g x q := by
  refine u13 ?_
  refine st_of rfl ?_
  walk_at "ss"
  intro pd hpd
  obtain ⟨a1, a2, a3, a4⟩ := lstep (fs' := [("parts", .ref pd)]) h hpd hn
  have z1 := (Ext.new (o := .dic false []) hpd) _ _ h
  refine seta_of z1 (by decide) ?_
  show svs _ _ _ _ _ (gup (gup g pd (.dic false [])) lr (.ins 0 [("parts", .ref pd)]))
  generalize gup (gup g pd (.dic false [])) lr (.ins 0 [("parts", .ref pd)]) = g1 at *
  refine st_of rfl ?_
  walk_at "ss"
  intro sd hsd
  obtain ⟨b1, b2, b3, b4⟩ := lstep (fs' := [("parts", .ref pd), ("stands", .ref sd)]) a1 hsd a4
  have z1 := (Ext.new (o := .dic false []) hsd) _ _ a1
  refine seta_of z1 (show (1 : Nat) < 1000 by decide) ?_
  show svs _ _ _ _ _ (gup (gup g1 sd (.dic false [])) lr (.ins 0 [("parts", .ref pd), ("stands", .ref sd)]))
  generalize gup (gup g1 sd (.dic false [])) lr (.ins 0 [("parts", .ref pd), ("stands", .ref sd)]) = g2 at *
  obtain ⟨n1, b5⟩ := b3 pd a2
  refine st_of rfl ?_
  walk_at "ss"
  intro bd hbd
  obtain ⟨c1, c2, c3, c4⟩ := lstep (fs' := [("parts", .ref pd), ("stands", .ref sd), ("bars", .ref bd)]) b1 hbd b4
  have z1 := (Ext.new (o := .dic false []) hbd) _ _ b1
  refine seta_of z1 (show (2 : Nat) < 1000 by decide) ?_
  show svs _ _ _ _ _ (gup (gup g2 bd (.dic false [])) lr (.ins 0 [("parts", .ref pd), ("stands", .ref sd), ("bars", .ref bd)]))
  generalize gup (gup g2 bd (.dic false [])) lr (.ins 0 [("parts", .ref pd), ("stands", .ref sd), ("bars", .ref bd)]) = g3 at *
  obtain ⟨n2, c5⟩ := c3 pd b5
  obtain ⟨n3, c6⟩ := c3 sd b2
  refine st_of rfl ?_
  walk_at "ss"
  intro nd hnd
  obtain ⟨d1, d2, d3, d4⟩ := lstep (fs' := [("parts", .ref pd), ("stands", .ref sd), ("bars", .ref bd), ("names", .ref nd)]) c1 hnd c4
  have z1 := (Ext.new (o := .dic false []) hnd) _ _ c1
  refine seta_of z1 (show (3 : Nat) < 1000 by decide) ?_
  show svs _ _ _ _ _ (gup (gup g3 nd (.dic false [])) lr (.ins 0 [("parts", .ref pd), ("stands", .ref sd), ("bars", .ref bd), ("names", .ref nd)]))
  generalize gup (gup g3 nd (.dic false [])) lr (.ins 0 [("parts", .ref pd), ("stands", .ref sd), ("bars", .ref bd), ("names", .ref nd)]) = g4 at *
  obtain ⟨n4, d5⟩ := d3 pd c5
  obtain ⟨n5, d6⟩ := d3 sd c6
  obtain ⟨n6, d7⟩ := d3 bd c2
  refine nl_of (CF := callF P gl n) (gl := gl) ?_
  exact .inl (hq g4 pd sd bd nd d1 d5 d6 d7 d2 ⟨n1.symm, n2.symm, n3.symm, n4.symm, n5.symm, n6.symm⟩ d4)
theorem sort_kvS {g : G} {a : Addr} {lk : Bool} {S : List Str} {q : VK3} (h : g a = some (.dic lk (kvS S))) (hq : newL g ((srt S).map W.str) q) : sortedS3 [.ref a] g q := by
  simp only [sortedS3, h]
  rw [kvS_keys]
  exact sort_strs hq
theorem gh_eta {Z : Gh} (h : Z.Bl = Z.Bw) : Z = { Z with Bl := Z.Bw, Bw := Z.Bw } := by
  cases Z
  simp only at h
  subst h
  rfl
section
variable {k : Nat} {lr : Addr} {Z : Gh} {L : List Str} {g g0 : G} {ns : List Int}
theorem law_tail (N : Nms L) (C : Cp L k Z) (hk : k ≤ 50) (h : HS lr Z g) {o6 o7 o8 : Option W} {D0 : Ends3} (hD : D0.rt = rtS g0 (fun v _ => v = .bl true)) :
    svs (callF P gl 9) gl b36_10 D0 [some (.scr (ns.map W.int)), some (.lv (L.map W.str)), some (.ref lr), some (.ref Z.pa), some (.ref Z.sa), some (.ref Z.ba), o6, o7, o8, none] g := by
  have h2 := N.two
  have h6 := N.len
  refine st_of rfl ?_
  walk_at "ss"
  refine for_map (f := W.str) (fun pre post s g' => ∃ (o8 : Option W), s = [some (.scr (ns.map W.int)), some (.lv (L.map W.str)), some (.ref lr), some (.ref Z.pa), some (.ref Z.sa), some (.ref Z.ba), o6, o7, o8, none] ∧ g' = g ∧ ∀ u ∈ pre, ∃ A, WO (ratD Z.S) u 20 A A.length ∧ A.length ≤ 7) ⟨o8, rfl, rfl, fun u hu => nomatch hu⟩ ?_ ?_
  · rintro s g' ⟨o8, rfl, rfl, hA⟩
    refine ⟨trivial, ?_⟩
    refine st_of rfl ?_
    walk_at "ss"
    refine c_cell (k := 0) ?_
    walk_at "ss"
    rw [List.length_map]
    refine mod_of (by omega) ?_
    obtain ⟨a, ha, ea⟩ := mod_nat ((ns.getD 0 0).fdiv 5) (m := L.length) (by omega)
    rw [ea]
    obtain ⟨u, hu⟩ : ∃ u, L[a]? = some u := ⟨_, List.getElem?_eq_getElem ha⟩
    have uL := List.mem_of_getElem? hu
    obtain ⟨A, w, hA7⟩ := hA u uL
    clear hA
    refine ixV_m (f := W.str) hu ?_
    refine st_of rfl ?_
    walk_at "ss"
    refine sort_kvS h.bw ?_
    refine newF ?_
    have hBw : Z.Bw.length ≤ 6 := Nat.le_trans (nd_sub C.bn C.b6) N.len
    have snd : (srt Z.Bw).Nodup := (List.mergeSort_perm Z.Bw leStr).nodup_iff.mpr C.bn
    walk_at "ss"
    refine for_map (f := W.str) (fun pre post s g' => ∃ (B : List Str) (o9 : Option W), s = [some (.scr (ns.map W.int)), some (.lv (L.map W.str)), some (.ref lr), some (.ref Z.pa), some (.ref Z.sa), some (.ref Z.ba), o6, o7, some (.str u), o9] ∧ Cp L k { Z with Bl := B, Bw := B } ∧ HS lr { Z with Bl := B, Bw := B } g' ∧ (dueZ { Z with Bl := B, Bw := B } A ≠ none ∨ ∀ x, x ∈ B ↔ x ∈ Z.Bw ∧ x ∉ pre)) ⟨Z.Bw, none, rfl, ?_, ?_, .inr fun x => by simp⟩ ?_ ?_
    · exact ⟨C.nn, C.n6, C.pp, C.pt, C.pl, C.tl, rfl, C.bn, C.b6, C.pm, C.ml, C.rm, C.sl, C.sr⟩
    · exact Eq.mp (congrArg (fun z => HS lr z _) (gh_eta C.bb)) h
    · rintro s g2 ⟨B, o9, rfl, C2, H2, hdue⟩
      refine ⟨trivial, ?_⟩
      refine st_of rfl ?_
      walk_at "ss"
      have hB6 : B.length ≤ 6 := Nat.le_trans (nd_sub C2.bn C2.b6) N.len
      refine c_ldue C2.pm (by decide) (by decide) C2.rm w hA7 (by have : Z.T.length ≤ k := C2.tl; show Z.T.length ≤ _; omega) (by show B.length ≤ _; omega) H2.tp H2.bw H2.ts ?_
      show isS true (dueW (dueZ { Z with Bl := B, Bw := B } A)) .non _ _
      cases e : dueZ { Z with Bl := B, Bw := B } A with
      | some e => exact hD ▸ .inl rfl
      | none =>
        exfalso
        rcases hdue with z | z
        · exact z e
        · have hB : B = [] := by
            rw [List.eq_nil_iff_forall_not_mem]
            intro x hx
            have := (z x).mp hx
            exact this.2 (srt_mem.mpr this.1)
          subst hB
          unfold dueZ firstF at e
          rw [List.find?_eq_none] at e
          have h0 := List.mem_of_getElem? w.h0
          refine e _ h0 (freeB_t.mpr fun y _ hy => ?_)
          cases hy
    · rintro nm pre post s g2 hx ⟨B, o9, rfl, C2, H2, hdue⟩ K hK
      refine ⟨trivial, ?_⟩
      have hB6 : B.length ≤ 6 := Nat.le_trans (nd_sub C2.bn C2.b6) N.len
      show svs _ _ _ _ [some (.scr (ns.map W.int)), some (.lv (L.map W.str)), some (.ref lr), some (.ref Z.pa), some (.ref Z.sa), some (.ref Z.ba), o6, o7, some (.str u), some (.str nm)] _
      refine st_K rfl fun K2 hK2 => ?_
      walk_at "ss"
      refine c_ldue C2.pm (by decide) (by decide) C2.rm w hA7 (by have : Z.T.length ≤ k := C2.tl; show Z.T.length ≤ _; omega) (by show B.length ≤ _; omega) H2.tp H2.bw H2.ts ?_
      show isS false (dueW (dueZ { Z with Bl := B, Bw := B } A)) .non _ _
      cases e : dueZ { Z with Bl := B, Bw := B } A with
      | some e2 =>
        refine ⟨false, rfl, ?_⟩
        rw [if_neg (by decide)]
        refine nl_of (CF := callF P gl 9) (gl := gl) ?_
        refine hK2 _ _ ?_
        refine nl_of (CF := callF P gl 9) (gl := gl) ?_
        exact hK _ _ ⟨B, _, rfl, C2, H2, .inl (by rw [e]; simp)⟩
      | none =>
        refine ⟨true, rfl, ?_⟩
        rw [if_pos rfl]
        have z := hdue.resolve_left fun f => f e
        have nmS : nm ∈ srt Z.Bw := by rw [hx]; simp
        have nmW : nm ∈ Z.Bw := srt_mem.mp nmS
        have nmp : nm ∉ pre := by
          rw [hx, List.nodup_append] at snd
          exact fun hp => snd.2.2 nm hp nm (by simp) rfl
        have nmB : nm ∈ B := (z nm).mpr ⟨nmW, nmp⟩
        refine st_of rfl ?_
        walk_at "ss"
        refine mc_of H2.ob rfl ?_
        refine c_allow (N.nm nm (C.b6 nm nmW)) C2.bn H2 fun g3 H3 => ?_
        refine st_of rfl ?_
        walk_at "ss"
        refine ⟨isDic_of H3.bw, ?_⟩
        have H3b : g3 Z.ba = some (.dic false (kvS B)) := H3.bw
        simp only [dpopS, H3b, toKey]
        obtain ⟨v, hv⟩ : ∃ v, dGet (kvS B) (.inr nm) = some v := by
          have := kvS_get (S := B) (s := nm)
          rw [decide_eq_true nmB] at this
          exact Option.isSome_iff_exists.mp this
        refine ⟨v, hv, ?_⟩
        rw [kvS_del C2.bn]
        have H4 : HS lr { Z with Bl := B.erase nm, Bw := B.erase nm } (gup g3 Z.ba (.dic false (kvS (B.erase nm)))) := H3.set_bw (B.erase nm)
        generalize gup g3 Z.ba (.dic false (kvS (B.erase nm))) = g4 at *
        have C4 : Cp L k { Z with Bl := B.erase nm, Bw := B.erase nm } := ⟨C.nn, C.n6, C.pp, C.pt, C.pl, C.tl, rfl, C2.bn.erase _, fun x hx => C2.b6 x (List.mem_of_mem_erase hx), C.pm, C.ml, C.rm, C.sl, C.sr⟩
        refine st_of rfl ?_
        walk_at "ss"
        refine c_right (Z := { Z with Bl := B.erase nm, Bw := B.erase nm }) N C4 (by omega) uL H4 fun _ _ _ => ?_
        walk_at "ss"
        refine nl_of (CF := callF P gl 9) (gl := gl) ?_
        refine hK2 _ _ ?_
        refine nl_of (CF := callF P gl 9) (gl := gl) ?_
        refine hK _ _ ⟨B.erase nm, _, rfl, C4, H4, .inr fun x => ?_⟩
        rw [C2.bn.mem_erase_iff, z, List.mem_append, List.mem_singleton]
        constructor
        · rintro ⟨q1, q2, q3⟩; exact ⟨q2, fun q4 => q4.elim q3 q1⟩
        · rintro ⟨q1, q2⟩; exact ⟨fun q3 => q2 (.inr q3), q1, fun q3 => q2 (.inl q3)⟩
  · rintro u pre post s g' hx ⟨o8, rfl, rfl, hA⟩ K hK
    refine ⟨trivial, ?_⟩
    have uL : u ∈ L := by rw [hx]; simp
    show svs _ _ _ _ [some (.scr (ns.map W.int)), some (.lv (L.map W.str)), some (.ref lr), some (.ref Z.pa), some (.ref Z.sa), some (.ref Z.ba), o6, o7, some (.str u), none] _
    refine st_of rfl ?_
    walk_at "ss"
    refine c_right N C (by omega) uL h fun A w hA7 => ?_
    walk_at "ss"
    refine nl_of (CF := callF P gl 9) (gl := gl) ?_
    refine hK _ _ ⟨_, rfl, rfl, fun v hv => ?_⟩
    rcases List.mem_append.mp hv with hv | hv
    · exact hA v hv
    · rw [List.mem_singleton.mp hv]; exact ⟨A, w, hA7⟩
end
theorem c_deedW {n k : Nat} {lr pa sa ba : Addr} {Z : Gh} {L : List Str} {g : G} {x : XK3} {q : VK3} {cl : Int} (N : Nms L) (C : Cp L k Z) (hk : k ≤ 50) (h : HS lr Z g) (e1 : Z.pa = pa) (e2 : Z.sa = sa) (e3 : Z.ba = ba) (hq : ∀ Z' g', Cp L (k + 1) Z' → HS lr Z' g' → Z'.pa = pa → Z'.sa = sa → Z'.ba = ba → q .non g') :
    callF P gl (n + 8) 35 [.ref lr, .ref pa, .ref sa, .ref ba, .lv (L.map W.str), .int cl] g x q := by
  subst e1 e2 e3
  exact c_deed N C hk h hq
theorem c_rightW {n k : Nat} {lr pa sa ba : Addr} {Z : Gh} {L : List Str} {u : Str} {g : G} {x : XK3} {q : VK3} (N : Nms L) (C : Cp L k Z) (hk : k ≤ 60) (hu : u ∈ L) (h : HS lr Z g) (e1 : Z.pa = pa) (e2 : Z.sa = sa) (e3 : Z.ba = ba) (hq : q (.bl true) g) : callF P gl (n + 9) 34 [.ref lr, .ref pa, .ref sa, .ref ba, .str u] g x q := by
  subst e1 e2 e3
  exact c_right N C hk hu h fun _ _ _ => hq
theorem law_tailW {k : Nat} {lr pa sa ba : Addr} {Z : Gh} {L : List Str} {g g0 : G} {ns : List Int} (N : Nms L) (C : Cp L k Z) (hk : k ≤ 50) (h : HS lr Z g) (e1 : Z.pa = pa) (e2 : Z.sa = sa) (e3 : Z.ba = ba) {o6 o7 o8 : Option W} {D0 : Ends3} (hD : D0.rt = rtS g0 (fun v _ => v = .bl true)) :
    svs (callF P gl 9) gl b36_10 D0 [some (.scr (ns.map W.int)), some (.lv (L.map W.str)), some (.ref lr), some (.ref pa), some (.ref sa), some (.ref ba), o6, o7, o8, none] g := by
  subst e1 e2 e3
  exact law_tail N C hk h hD
theorem start_ok {g1 : G} {lr pd sd bd nd pa sa ba : Addr} {L : List Str} (e1 : g1 lr = some (.ins 0 [("parts", .ref pd), ("stands", .ref sd), ("bars", .ref bd), ("names", .ref nd)])) (e2 : g1 pd = some (.dic false [])) (e3 : g1 sd = some (.dic false [])) (e4 : g1 bd = some (.dic false [])) (e5 : g1 nd = some (.dic false [])) (hne : sd ≠ pd ∧ bd ≠ pd ∧ bd ≠ sd ∧ nd ≠ pd ∧ nd ≠ sd ∧ nd ≠ bd) (hn : noX g1)
    (hpa : g1 pa = none) (hsa : gup g1 pa (.dit false []) sa = none) (hba : gup (gup g1 pa (.dit false [])) sa (.dit false []) ba = none) :
    Cp L 0 ⟨pd, sd, bd, nd, pa, sa, ba, [], [], [], [], [], [], [], []⟩ ∧ HS lr ⟨pd, sd, bd, nd, pa, sa, ba, [], [], [], [], [], [], [], []⟩ (gup (gup (gup g1 pa (.dit false [])) sa (.dit false [])) ba (.dic false [])) := by
  refine ⟨⟨by simp, by simp, fun u v h => (by cases h), fun p => Iff.rfl, Nat.le_refl _, Nat.le_refl _, rfl, by simp, by simp, ⟨by simp, by simp, by simp, by simp⟩, Nat.le_refl _, fun u v => rfl, Nat.le_refl _, fun u r h => (by cases h)⟩, ?_⟩
  have x1 := Ext.new (o := .dit false []) hpa
  have x2 := Ext.new (o := .dit false []) hsa
  have x3 := Ext.new (o := .dic false []) hba
  have xx := (x1.trans x2).trans x3
  have pa1 : gup g1 pa (.dit false []) pa = some (.dit false []) := gup_same
  have n1 : pa ≠ sa := ne_free pa1 hsa
  have nb : ∀ {a o}, g1 a = some o → a ≠ ba := fun h => ne_free (x2 _ _ (x1 _ _ h)) hba
  obtain ⟨m1, m2, m3, m4, m5, m6⟩ := hne
  refine ⟨xx _ _ e1, ⟨⟨xx _ _ e2, (fun e he => nomatch he), by simp, fun u v => ⟨(fun h => nomatch h), fun ⟨e, he, _⟩ => nomatch he⟩⟩, (fun e he => nomatch he), (fun e he => nomatch he), (fun e he => nomatch he), fun e he => nomatch he⟩, ⟨xx _ _ e3, fun u r h => (by cases h), fun _ _ _ _ h => (by cases h), fun u r h => (by cases h), by simp⟩, xx _ _ e4, xx _ _ e5, x3 _ _ (x2 _ _ pa1), x3 _ _ gup_same, gup_same, ⟨m6.symm, nb e4, nb e5⟩, fun a ha => ?_, fun a ha hb => ?_, n1, ((hn.up fun _ => by simp).up fun _ => by simp).up fun _ => by simp⟩
  · have key : a ≠ pd ∧ a ≠ sd := by
      rcases ha with rfl | rfl | rfl
      · exact ⟨m2, m3⟩
      · exact ⟨m4, m5⟩
      · exact ⟨(nb e2).symm, (nb e3).symm⟩
    exact ⟨fun z => key.1 (by simpa [fpD] using z), fun z => key.2 (by simpa [fpS] using z)⟩
  · have h1 : a = pd := by simpa [fpD] using ha
    have h2 : a = sd := by simpa [fpS] using hb
    exact m1 (h2.symm.trans h1)
theorem law_ok (ns : List Int) (hn : ns.length ≤ 63) : callF P gl 10 36 [.scr (ns.map W.int)] (fun _ => none) (fun _ _ _ => False) (fun v _ => v = .bl true) := by
  refine u36 ?_
  refine st_of rfl ?_
  walk_at "ss"
  refine c_cell (k := 1) ?_
  refine c_cell (k := 0) ?_
  walk_at "ss"
  obtain ⟨m5, hm5, em5⟩ := mod_nat (ns.getD 0 0) (m := 5) (by decide)
  rw [show (2 : Int) + (ns.getD 0 0).fmod 5 = ((2 + m5 : Nat) : Int) by rw [show (ns.getD 0 0).fmod 5 = (m5 : Int) from em5]; omega]
  refine c_names (by omega) fun L hL hLn hnd => ?_
  have N : Nms L := ⟨hLn, by omega, by omega, hnd⟩
  have h2 := N.two
  have h6 := N.len
  refine st_of rfl ?_
  walk_at "ss"
  intro lr hlr
  refine c_linit gup_same (noX.up (g := fun _ => none) (fun a l e => (by cases e)) fun _ => by simp) fun g1 pd sd bd nd e1 e2 e3 e4 e5 hne hnx => ⟨rfl, ?_⟩
  refine st_of rfl ?_
  walk_at "ss"
  intro pa hpa
  refine st_of rfl ?_
  walk_at "ss"
  intro sa hsa
  refine st_of rfl ?_
  walk_at "ss"
  intro ba hba
  obtain ⟨C0, H0⟩ := start_ok (L := L) e1 e2 e3 e4 e5 hne hnx hpa hsa hba
  generalize gup (gup (gup g1 pa (.dit false [])) sa (.dit false [])) ba (.dic false []) = gs at *
  refine st_of rfl ?_
  walk_at "ss"
  obtain ⟨cs, ecs, hcs⟩ : ∃ cs : List Int, cutW (ns.map W.int) (some 2) (some 44) = cs.map W.int ∧ cs.length ≤ 42 := by
    unfold cutW
    rw [show (some 2 : Option Int) = some ((2 : Nat) : Int) from rfl, show (some 44 : Option Int) = some ((44 : Nat) : Int) from rfl, HT.sIx_nat, HT.sIx_nat, ← List.map_drop, ← List.map_take]
    exact ⟨_, rfl, by rw [List.length_take]; omega⟩
  rw [ecs]
  refine for_enum (fun k s g' => ∃ (Z : Gh) (o6 o7 o8 : Option W), Cp L k Z ∧ HS lr Z g' ∧ Z.pa = pa ∧ Z.sa = sa ∧ Z.ba = ba ∧ s = [some (.scr (ns.map W.int)), some (.lv (L.map W.str)), some (.ref lr), some (.ref pa), some (.ref sa), some (.ref ba), o6, o7, o8, none]) ⟨_, none, none, none, C0, H0, rfl, rfl, rfl, rfl⟩ ?_ ?_
  · rintro s g' ⟨Z, o6, o7, o8, C, H, p1, p2, p3, rfl⟩
    rw [List.length_map] at C
    exact ⟨trivial, law_tailW N C (by omega) H p1 p2 p3 rfl⟩
  · rintro k y s g' hy ⟨Z, o6, o7, o8, C, H, p1, p2, p3, rfl⟩ K hK
    refine ⟨trivial, ?_⟩
    rw [List.getElem?_map] at hy
    have hk : k < cs.length := by
      rcases Nat.lt_or_ge k cs.length with c | c
      · exact c
      · rw [List.getElem?_eq_none c] at hy; cases hy
    rw [List.getElem?_eq_getElem hk] at hy
    cases hy
    generalize cs[k] = cl at *
    refine ⟨rfl, ?_⟩
    show svs _ _ _ _ [some (.scr (ns.map W.int)), some (.lv (L.map W.str)), some (.ref lr), some (.ref pa), some (.ref sa), some (.ref ba), some (.int (k : Int)), some (.int cl), o8, none] _
    refine st_of rfl ?_
    walk_at "ss"
    refine c_deedW N C (by omega) H p1 p2 p3 fun Z2 g2 C2 H2 q1 q2 q3 => ?_
    refine st_of rfl ?_
    walk_at "ss"
    rw [List.length_map]
    refine mod_of (by omega) ?_
    obtain ⟨a, ha, ea⟩ := mod_nat (cl.fdiv 3) (m := L.length) (by omega)
    rw [ea]
    obtain ⟨u, hu⟩ : ∃ u, L[a]? = some u := ⟨_, List.getElem?_eq_getElem ha⟩
    have uL := List.mem_of_getElem? hu
    refine ixV_m (f := W.str) hu ?_
    refine st_K rfl fun K2 hK2 => ?_
    walk_at "ss"
    have fin : ∀ s2, s2 = [some (.scr (ns.map W.int)), some (.lv (L.map W.str)), some (.ref lr), some (.ref pa), some (.ref sa), some (.ref ba), some (.int (k : Int)), some (.int cl), some (.str u), none] → K2 s2 g2 := by
      rintro s2 rfl
      refine hK2 _ _ ?_
      refine nl_of (CF := callF P gl 9) (gl := gl) ?_
      exact hK _ _ ⟨Z2, _, _, _, C2, H2, q1, q2, q3, rfl⟩
    by_cases c : (k : Int).fmod 4 = 3
    · rw [if_pos c]
      refine c_rightW N C2 (by omega) uL H2 q1 q2 q3 ?_
      walk_at "ss"
      refine nl_of (CF := callF P gl 9) (gl := gl) ?_
      exact fin _ rfl
    · rw [if_neg c]
      refine nl_of (CF := callF P gl 9) (gl := gl) ?_
      exact fin _ rfl
theorem facts {Pr : Program} {w : World} {K : PySem.W.Frag} {h : Heap} {mg : Str → Option Value} {f : Addr} (X : K.In h) (G : h.Ns mainGlobals mg) (hfa : mg ("law" : Str) = some (.ref f)) (c0 : He.SaysX fa fn [] [] exB w h K) :
    ∃ fd : FuncData, (∀ (s : Shared) (v : Value), BindsTo s fd ⟨[v], []⟩ [("_law_script", v)]) ∧ ∀ base : Heap, K.In base → base.Ns mainGlobals mg → FnOk Pr w K mg base (L2.CX Pr w) (2 * 10 + 2) f fd ["_law_script"] (spLaw3 K) := by
  obtain ⟨c, cb0⟩ := says_fact c0
  obtain ⟨cbh, cbx⟩ := bool_and (show ((csB xfl xs cd K && obB ocs fl fp K && icB ocs ics K) && (xfkB K "NoStandIn" "StoveError" "good" && (xfkB K "InRing" "StoveError" "ring" && true))) = true from cb0)
  obtain ⟨cb1, cic⟩ := bool_and cbh
  obtain ⟨cb, cob⟩ := bool_and cb1
  obtain ⟨fd0, F0⟩ := c.def_ 0 (d := D0) rfl
  obtain ⟨fd1, F1⟩ := c.def_ 1 (d := D1) rfl
  obtain ⟨fd2, F2⟩ := c.def_ 2 (d := D2) rfl
  obtain ⟨fd3, F3⟩ := c.def_ 3 (d := D3) rfl
  obtain ⟨fd4, F4⟩ := c.def_ 4 (d := D4) rfl
  obtain ⟨fd5, F5⟩ := c.def_ 5 (d := D5) rfl
  obtain ⟨fd6, F6⟩ := c.def_ 6 (d := D6) rfl
  obtain ⟨fd7, F7⟩ := c.def_ 7 (d := D7) rfl
  obtain ⟨fd8, F8⟩ := c.def_ 8 (d := D8) rfl
  obtain ⟨fd9, F9⟩ := c.def_ 9 (d := D9) rfl
  obtain ⟨fd10, F10⟩ := c.def_ 10 (d := D10) rfl
  obtain ⟨fd11, F11⟩ := c.def_ 11 (d := D11) rfl
  obtain ⟨fd12, F12⟩ := c.def_ 12 (d := D12) rfl
  obtain ⟨fd13, F13⟩ := c.def_ 13 (d := D13) rfl
  obtain ⟨fd14, F14⟩ := c.def_ 14 (d := D14) rfl
  obtain ⟨fd15, F15⟩ := c.def_ 15 (d := D15) rfl
  obtain ⟨fd16, F16⟩ := c.def_ 16 (d := D16) rfl
  obtain ⟨fd17, F17⟩ := c.def_ 17 (d := D17) rfl
  obtain ⟨fd18, F18⟩ := c.def_ 18 (d := D18) rfl
  obtain ⟨fd19, F19⟩ := c.def_ 19 (d := D19) rfl
  obtain ⟨fd20, F20⟩ := c.def_ 20 (d := D20) rfl
  obtain ⟨fd21, F21⟩ := c.def_ 21 (d := D21) rfl
  obtain ⟨fd22, F22⟩ := c.def_ 22 (d := D22) rfl
  obtain ⟨fd23, F23⟩ := c.def_ 23 (d := D23) rfl
  obtain ⟨fd24, F24⟩ := c.def_ 24 (d := D24) rfl
  obtain ⟨fd25, F25⟩ := c.def_ 25 (d := D25) rfl
  obtain ⟨fd26, F26⟩ := c.def_ 26 (d := D26) rfl
  obtain ⟨fd27, F27⟩ := c.def_ 27 (d := D27) rfl
  obtain ⟨fd28, F28⟩ := c.def_ 28 (d := D28) rfl
  obtain ⟨fd29, F29⟩ := c.def_ 29 (d := D29) rfl
  obtain ⟨fd30, F30⟩ := c.def_ 30 (d := D30) rfl
  obtain ⟨fd31, F31⟩ := c.def_ 31 (d := D31) rfl
  obtain ⟨fd32, F32⟩ := c.def_ 32 (d := D32) rfl
  obtain ⟨fd33, F33⟩ := c.def_ 33 (d := D33) rfl
  obtain ⟨fd34, F34⟩ := c.def_ 34 (d := D34) rfl
  obtain ⟨fd35, F35⟩ := c.def_ 35 (d := D35) rfl
  obtain ⟨fd36, F36⟩ := c.def_ 36 (d := D36) rfl
  obtain ⟨fd37, F37⟩ := c.def_ 37 (d := D37) rfl
  obtain ⟨fx0, Fx0⟩ := c.def_ 38 (d := Dx0) rfl
  obtain ⟨cx0, cbx⟩ := bool_and cbx
  have XK0 := xfk_of X G (x := "NoStandIn") (y := "StoveError") (f := "good") (sf := "self") (par := "good") cx0 Fx0 rfl scx0 (by decide +kernel) (Fx0.bindsN fun _ _ _ _ _ _ us hl => match us, hl with | [_, _], _ => rfl)
  obtain ⟨fx1, Fx1⟩ := c.def_ 39 (d := Dx1) rfl
  obtain ⟨cx1, cbx⟩ := bool_and cbx
  have XK1 := xfk_of X G (x := "InRing") (y := "StoveError") (f := "ring") (sf := "self") (par := "ring") cx1 Fx1 rfl scx1 (by decide +kernel) (Fx1.bindsN fun _ _ _ _ _ _ us hl => match us, hl with | [_, _], _ => rfl)
  have e := hfa.symm.trans (He.glo_ok X G (c.fact 26 (f := .glo "law") rfl))
  cases e
  have E0 : DefOk K mg P gls xs cs ocs fl ics xf xfl d0 (He.fAd K ("_wall", none)) fd0 := defOk_N (st := (top 0)) (q := "_wall") F0 sc0 ch0 (fun _ => He.glo_ok X G (c.fact 0 (f := .glo "_wall") rfl)) rfl (fun _ _ _ _ _ _ us hl => match us, hl with | [_], _ => rfl)
  have E1 : DefOk K mg P gls xs cs ocs fl ics xf xfl d1 (He.fAd K ("is_name", none)) fd1 := defOk_N (st := (top 22)) (q := "is_name") F1 sc1 ch1 (fun _ => He.glo_ok X G (c.fact 1 (f := .glo "is_name") rfl)) rfl (fun _ _ _ _ _ _ us hl => match us, hl with | [_], _ => rfl)
  have E2 : DefOk K mg P gls xs cs ocs fl ics xf xfl d2 (He.fAd K ("way_to", none)) fd2 := defOk_N (st := (top 24)) (q := "way_to") F2 sc2 ch2 (fun _ => He.glo_ok X G (c.fact 2 (f := .glo "way_to") rfl)) rfl (fun _ _ _ _ _ _ us hl => match us, hl with | [_, _], _ => rfl)
  have E3 : DefOk K mg P gls xs cs ocs fl ics xf xfl d3 (He.fAd K ("chain_down", none)) fd3 := defOk_N (st := (top 25)) (q := "chain_down") F3 sc3 ch3 (fun _ => He.glo_ok X G (c.fact 3 (f := .glo "chain_down") rfl)) rfl (fun _ _ _ _ _ _ us hl => match us, hl with | [_, _, _], _ => rfl)
  have E4 : DefOk K mg P gls xs cs ocs fl ics xf xfl d4 (He.fAd K ("is_whole", none)) fd4 := defOk_N (st := (top 27)) (q := "is_whole") F4 sc4 ch4 (fun _ => He.glo_ok X G (c.fact 4 (f := .glo "is_whole") rfl)) rfl (fun _ _ _ _ _ _ us hl => match us, hl with | [_], _ => rfl)
  have E5 : DefOk K mg P gls xs cs ocs fl ics xf xfl d5 (He.fAd K ("divisor", none)) fd5 := defOk_N (st := (top 28)) (q := "divisor") F5 sc5 ch5 (fun _ => He.glo_ok X G (c.fact 5 (f := .glo "divisor") rfl)) rfl (fun _ _ _ _ _ _ us hl => match us, hl with | [_, _], _ => rfl)
  have E6 : DefOk K mg P gls xs cs ocs fl ics xf xfl d6 (He.fAd K ("fraction", none)) fd6 := defOk_D (st := (top 30)) (q := "fraction") (dvs := He.DefD.dvs K D6) F6 sc6 ch6 (fun _ => He.glo_ok X G (c.fact 6 (f := .glo "fraction") rfl)) (List.cons_ne_nil _ _) rfl (rvs_drop fun _ => (RVs.cons rv_int RVs.nil)) (fun m h1 h2 => match m, h1, h2 with | 0, _, h2 => absurd (show 2 ≤ 0 + 1 from h2) (by decide) | 1, _, _ => fun _ _ _ _ _ _ _ us its hl hi => (match us, its, hl, hi with | [_], [_], _, _ => ⟨_, rfl, rfl⟩) | 2, _, _ => fun _ _ _ _ _ _ _ us its hl hi => (match us, its, hl, hi with | [_, _], [_], _, _ => ⟨_, rfl, rfl⟩) | m + 3, h1, _ => absurd (show m + 3 ≤ 2 from h1) (by omega))
  have E7 : DefOk K mg P gls xs cs ocs fl ics xf xfl d7 (He.fAd K ("is_fraction", none)) fd7 := defOk_N (st := (top 31)) (q := "is_fraction") F7 sc7 ch7 (fun _ => He.glo_ok X G (c.fact 7 (f := .glo "is_fraction") rfl)) rfl (fun _ _ _ _ _ _ us hl => match us, hl with | [_], _ => rfl)
  have E8 : DefOk K mg P gls xs cs ocs fl ics xf xfl d8 (He.fAd K ("product", none)) fd8 := defOk_N (st := (top 32)) (q := "product") F8 sc8 ch8 (fun _ => He.glo_ok X G (c.fact 8 (f := .glo "product") rfl)) rfl (fun _ _ _ _ _ _ us hl => match us, hl with | [_, _], _ => rfl)
  have E9 : DefOk K mg P gls xs cs ocs fl ics xf xfl d9 (He.fAd K ("is_less", none)) fd9 := defOk_N (st := (top 33)) (q := "is_less") F9 sc9 ch9 (fun _ => He.glo_ok X G (c.fact 9 (f := .glo "is_less") rfl)) rfl (fun _ _ _ _ _ _ us hl => match us, hl with | [_, _], _ => rfl)
  have E10 : DefOk K mg P gls xs cs ocs fl ics xf xfl d10 (He.fAd K ("next_ones", none)) fd10 := defOk_N (st := (top 35)) (q := "next_ones") F10 sc10 ch10 (fun _ => He.glo_ok X G (c.fact 10 (f := .glo "next_ones") rfl)) rfl (fun _ _ _ _ _ _ us hl => match us, hl with | [_, _, _], _ => rfl)
  have E11 : DefOk K mg P gls xs cs ocs fl ics xf xfl d11 (He.fAd K ("ways_out", none)) fd11 := defOk_N (st := (top 36)) (q := "ways_out") F11 sc11 ch11 (fun _ => He.glo_ok X G (c.fact 11 (f := .glo "ways_out") rfl)) rfl (fun _ _ _ _ _ _ us hl => match us, hl with | [_, _], _ => rfl)
  have E12 : DefOk K mg P gls xs cs ocs fl ics xf xfl d12 (He.fAd K ("need_name", none)) fd12 := defOk_N (st := (top 39)) (q := "need_name") F12 sc12 ch12 (fun _ => He.glo_ok X G (c.fact 12 (f := .glo "need_name") rfl)) rfl (fun _ _ _ _ _ _ us hl => match us, hl with | [_], _ => rfl)
  have E13 : DefOk K mg P gls xs cs ocs fl ics xf xfl d13 (He.fAd K ("Larder", some "__init__")) fd13 := defOk_N (st := (topm 40 0)) (q := "Larder.__init__") F13 sc13 ch13 (fun h => nomatch h) rfl (fun _ _ _ _ _ _ us hl => match us, hl with | [_], _ => rfl)
  have E14 : DefOk K mg P gls xs cs ocs fl ics xf xfl d14 (He.fAd K ("Larder", some "note")) fd14 := defOk_N (st := (topm 40 1)) (q := "Larder.note") F14 sc14 ch14 (fun h => nomatch h) rfl (fun _ _ _ _ _ _ us hl => match us, hl with | [_, _], _ => rfl)
  have E15 : DefOk K mg P gls xs cs ocs fl ics xf xfl d15 (He.fAd K ("Larder", some "part")) fd15 := defOk_N (st := (topm 40 2)) (q := "Larder.part") F15 sc15 ch15 (fun h => nomatch h) rfl (fun _ _ _ _ _ _ us hl => match us, hl with | [_, _, _], _ => rfl)
  have E16 : DefOk K mg P gls xs cs ocs fl ics xf xfl d16 (He.fAd K ("Larder", some "stand")) fd16 := defOk_D (st := (topm 40 3)) (q := "Larder.stand") (dvs := He.DefD.dvs K D16) F16 sc16 ch16 (fun h => nomatch h) (List.cons_ne_nil _ _) rfl (rvs_drop fun _ => (RVs.cons rv_non RVs.nil)) (fun m h1 h2 => match m, h1, h2 with | 0, _, h2 => absurd (show 4 ≤ 0 + 1 from h2) (by decide) | 1, _, h2 => absurd (show 4 ≤ 1 + 1 from h2) (by decide) | 2, _, h2 => absurd (show 4 ≤ 2 + 1 from h2) (by decide) | 3, _, _ => fun _ _ _ _ _ _ _ us its hl hi => (match us, its, hl, hi with | [_, _, _], [_], _, _ => ⟨_, rfl, rfl⟩) | 4, _, _ => fun _ _ _ _ _ _ _ us its hl hi => (match us, its, hl, hi with | [_, _, _, _], [_], _, _ => ⟨_, rfl, rfl⟩) | m + 5, h1, _ => absurd (show m + 5 ≤ 4 from h1) (by omega))
  have E17 : DefOk K mg P gls xs cs ocs fl ics xf xfl d17 (He.fAd K ("Larder", some "bar")) fd17 := defOk_N (st := (topm 40 4)) (q := "Larder.bar") F17 sc17 ch17 (fun h => nomatch h) rfl (fun _ _ _ _ _ _ us hl => match us, hl with | [_, _], _ => rfl)
  have E18 : DefOk K mg P gls xs cs ocs fl ics xf xfl d18 (He.fAd K ("Larder", some "allow")) fd18 := defOk_N (st := (topm 40 5)) (q := "Larder.allow") F18 sc18 ch18 (fun h => nomatch h) rfl (fun _ _ _ _ _ _ us hl => match us, hl with | [_, _], _ => rfl)
  have E19 : DefOk K mg P gls xs cs ocs fl ics xf xfl d19 (He.fAd K ("Larder", some "known")) fd19 := defOk_N (st := (topm 40 6)) (q := "Larder.known") F19 sc19 ch19 (fun h => nomatch h) rfl (fun _ _ _ _ _ _ us hl => match us, hl with | [_], _ => rfl)
  have E20 : DefOk K mg P gls xs cs ocs fl ics xf xfl d20 (He.fAd K ("Larder", some "held")) fd20 := defOk_N (st := (topm 40 7)) (q := "Larder.held") F20 sc20 ch20 (fun h => nomatch h) rfl (fun _ _ _ _ _ _ us hl => match us, hl with | [_, _], _ => rfl)
  have E21 : DefOk K mg P gls xs cs ocs fl ics xf xfl d21 (He.fAd K ("Larder", some "barred")) fd21 := defOk_N (st := (topm 40 8)) (q := "Larder.barred") F21 sc21 ch21 (fun h => nomatch h) rfl (fun _ _ _ _ _ _ us hl => match us, hl with | [_, _], _ => rfl)
  have E22 : DefOk K mg P gls xs cs ocs fl ics xf xfl d22 (He.fAd K ("Larder", some "stand_in")) fd22 := defOk_N (st := (topm 40 9)) (q := "Larder.stand_in") F22 sc22 ch22 (fun h => nomatch h) rfl (fun _ _ _ _ _ _ us hl => match us, hl with | [_, _], _ => rfl)
  have E23 : DefOk K mg P gls xs cs ocs fl ics xf xfl d23 (He.fAd K ("_law_cell_at", none)) fd23 := defOk_N (st := (top 42)) (q := "_law_cell_at") F23 sc23 ch23 (fun _ => He.glo_ok X G (c.fact 13 (f := .glo "_law_cell_at") rfl)) rfl (fun _ _ _ _ _ _ us hl => match us, hl with | [_, _], _ => rfl)
  have E24 : DefOk K mg P gls xs cs ocs fl ics xf xfl d24 (He.fAd K ("_law_names", none)) fd24 := defOk_N (st := (top 43)) (q := "_law_names") F24 sc24 ch24 (fun _ => He.glo_ok X G (c.fact 14 (f := .glo "_law_names") rfl)) rfl (fun _ _ _ _ _ _ us hl => match us, hl with | [_, _], _ => rfl)
  have E25 : DefOk K mg P gls xs cs ocs fl ics xf xfl d25 (He.fAd K ("_law_divisor_of", none)) fd25 := defOk_N (st := (top 44)) (q := "_law_divisor_of") F25 sc25 ch25 (fun _ => He.glo_ok X G (c.fact 15 (f := .glo "_law_divisor_of") rfl)) rfl (fun _ _ _ _ _ _ us hl => match us, hl with | [_, _], _ => rfl)
  have E26 : DefOk K mg P gls xs cs ocs fl ics xf xfl d26 (He.fAd K ("_law_lowest", none)) fd26 := defOk_N (st := (top 45)) (q := "_law_lowest") F26 sc26 ch26 (fun _ => He.glo_ok X G (c.fact 16 (f := .glo "_law_lowest") rfl)) rfl (fun _ _ _ _ _ _ us hl => match us, hl with | [_, _], _ => rfl)
  have E27 : DefOk K mg P gls xs cs ocs fl ics xf xfl d27 (He.fAd K ("_law_ratio", none)) fd27 := defOk_N (st := (top 46)) (q := "_law_ratio") F27 sc27 ch27 (fun _ => He.glo_ok X G (c.fact 17 (f := .glo "_law_ratio") rfl)) rfl (fun _ _ _ _ _ _ us hl => match us, hl with | [_], _ => rfl)
  have E28 : DefOk K mg P gls xs cs ocs fl ics xf xfl d28 (He.fAd K ("_law_free", none)) fd28 := defOk_N (st := (top 47)) (q := "_law_free") F28 sc28 ch28 (fun _ => He.glo_ok X G (c.fact 18 (f := .glo "_law_free") rfl)) rfl (fun _ _ _ _ _ _ us hl => match us, hl with | [_, _, _], _ => rfl)
  have E29 : DefOk K mg P gls xs cs ocs fl ics xf xfl d29 (He.fAd K ("_law_least", none)) fd29 := defOk_N (st := (top 48)) (q := "_law_least") F29 sc29 ch29 (fun _ => He.glo_ok X G (c.fact 19 (f := .glo "_law_least") rfl)) rfl (fun _ _ _ _ _ _ us hl => match us, hl with | [_, _], _ => rfl)
  have E30 : DefOk K mg P gls xs cs ocs fl ics xf xfl d30 (He.fAd K ("_law_due", none)) fd30 := defOk_N (st := (top 49)) (q := "_law_due") F30 sc30 ch30 (fun _ => He.glo_ok X G (c.fact 20 (f := .glo "_law_due") rfl)) rfl (fun _ _ _ _ _ _ us hl => match us, hl with | [_, _, _, _], _ => rfl)
  have E31 : DefOk K mg P gls xs cs ocs fl ics xf xfl d31 (He.fAd K ("_law_asked", none)) fd31 := defOk_N (st := (top 51)) (q := "_law_asked") F31 sc31 ch31 (fun _ => He.glo_ok X G (c.fact 21 (f := .glo "_law_asked") rfl)) rfl (fun _ _ _ _ _ _ us hl => match us, hl with | [_, _], _ => rfl)
  have E32 : DefOk K mg P gls xs cs ocs fl ics xf xfl d32 (He.fAd K ("_law_given_so", none)) fd32 := defOk_N (st := (top 52)) (q := "_law_given_so") F32 sc32 ch32 (fun _ => He.glo_ok X G (c.fact 22 (f := .glo "_law_given_so") rfl)) rfl (fun _ _ _ _ _ _ us hl => match us, hl with | [_, _, _, _, _], _ => rfl)
  have E33 : DefOk K mg P gls xs cs ocs fl ics xf xfl d33 (He.fAd K ("_law_barred_so", none)) fd33 := defOk_N (st := (top 53)) (q := "_law_barred_so") F33 sc33 ch33 (fun _ => He.glo_ok X G (c.fact 23 (f := .glo "_law_barred_so") rfl)) rfl (fun _ _ _ _ _ _ us hl => match us, hl with | [_, _, _, _], _ => rfl)
  have E34 : DefOk K mg P gls xs cs ocs fl ics xf xfl d34 (He.fAd K ("_law_right", none)) fd34 := defOk_N (st := (top 54)) (q := "_law_right") F34 sc34 ch34 (fun _ => He.glo_ok X G (c.fact 24 (f := .glo "_law_right") rfl)) rfl (fun _ _ _ _ _ _ us hl => match us, hl with | [_, _, _, _, _], _ => rfl)
  have E35 : DefOk K mg P gls xs cs ocs fl ics xf xfl d35 (He.fAd K ("_law_deed", none)) fd35 := defOk_N (st := (top 55)) (q := "_law_deed") F35 sc35 ch35 (fun _ => He.glo_ok X G (c.fact 25 (f := .glo "_law_deed") rfl)) rfl (fun _ _ _ _ _ _ us hl => match us, hl with | [_, _, _, _, _, _], _ => rfl)
  have E36 : DefOk K mg P gls xs cs ocs fl ics xf xfl d36 (He.fAd K ("law", none)) fd36 := defOk_N (st := (top 56)) (q := "law") F36 sc36 ch36 (fun _ => He.glo_ok X G (c.fact 26 (f := .glo "law") rfl)) rfl (fun _ _ _ _ _ _ us hl => match us, hl with | [_], _ => rfl)
  have E37 : DefOk K mg P gls xs cs ocs fl ics xf xfl d37 (He.fAd K ("_law_alone", none)) fd37 := defOk_N (st := (top 50)) (q := "_law_alone") F37 sc37 ch37 (fun _ => He.glo_ok X G (c.fact 27 (f := .glo "_law_alone") rfl)) rfl (fun _ _ _ _ _ _ us hl => match us, hl with | [_], _ => rfl)
  let fA : Nat → Addr := fun i => He.fAd K (fp.getD i ("", none))
  let fD : Nat → FuncData := fun i => [fd0, fd1, fd2, fd3, fd4, fd5, fd6, fd7, fd8, fd9, fd10, fd11, fd12, fd13, fd14, fd15, fd16, fd17, fd18, fd19, fd20, fd21, fd22, fd23, fd24, fd25, fd26, fd27, fd28, fd29, fd30, fd31, fd32, fd33, fd34, fd35, fd36, fd37].getD i fd0
  have T : TopOk Pr w K mg ⟨K, clsE K xs, oclE K ocs, ocs.length, fl, xfl⟩ P gl gls xs cs ocs fl ics xf xfl fA fD := {
    hK := rfl
    defs := fun i d e => by
      match i, e with
      | 0, e => cases e; exact E0
      | 1, e => cases e; exact E1
      | 2, e => cases e; exact E2
      | 3, e => cases e; exact E3
      | 4, e => cases e; exact E4
      | 5, e => cases e; exact E5
      | 6, e => cases e; exact E6
      | 7, e => cases e; exact E7
      | 8, e => cases e; exact E8
      | 9, e => cases e; exact E9
      | 10, e => cases e; exact E10
      | 11, e => cases e; exact E11
      | 12, e => cases e; exact E12
      | 13, e => cases e; exact E13
      | 14, e => cases e; exact E14
      | 15, e => cases e; exact E15
      | 16, e => cases e; exact E16
      | 17, e => cases e; exact E17
      | 18, e => cases e; exact E18
      | 19, e => cases e; exact E19
      | 20, e => cases e; exact E20
      | 21, e => cases e; exact E21
      | 22, e => cases e; exact E22
      | 23, e => cases e; exact E23
      | 24, e => cases e; exact E24
      | 25, e => cases e; exact E25
      | 26, e => cases e; exact E26
      | 27, e => cases e; exact E27
      | 28, e => cases e; exact E28
      | 29, e => cases e; exact E29
      | 30, e => cases e; exact E30
      | 31, e => cases e; exact E31
      | 32, e => cases e; exact E32
      | 33, e => cases e; exact E33
      | 34, e => cases e; exact E34
      | 35, e => cases e; exact E35
      | 36, e => cases e; exact E36
      | 37, e => cases e; exact E37
      | i + 38, e => cases e
    blt := (List.forall_mem_cons.mpr ⟨He.free_ok X G (c.fact 28 (f := .free "len") rfl), (List.forall_mem_cons.mpr ⟨He.free_ok X G (c.fact 29 (f := .free "abs") rfl), (List.forall_mem_cons.mpr ⟨He.free_ok X G (c.fact 30 (f := .free "str") rfl), (List.forall_mem_cons.mpr ⟨He.free_ok X G (c.fact 31 (f := .free "max") rfl), (List.forall_mem_cons.mpr ⟨He.free_ok X G (c.fact 32 (f := .free "min") rfl), (List.forall_mem_cons.mpr ⟨He.free_ok X G (c.fact 33 (f := .free "sum") rfl), (List.forall_mem_cons.mpr ⟨He.free_ok X G (c.fact 34 (f := .free "all") rfl), (List.forall_mem_cons.mpr ⟨He.free_ok X G (c.fact 35 (f := .free "any") rfl), (List.forall_mem_cons.mpr ⟨He.free_ok X G (c.fact 36 (f := .free "int") rfl), (List.forall_mem_cons.mpr ⟨He.free_ok X G (c.fact 37 (f := .free "list") rfl), (List.forall_mem_cons.mpr ⟨He.free_ok X G (c.fact 38 (f := .free "divmod") rfl), (List.forall_mem_cons.mpr ⟨He.free_ok X G (c.fact 39 (f := .free "isinstance") rfl), (List.forall_mem_cons.mpr ⟨He.free_ok X G (c.fact 40 (f := .free "range") rfl), (List.forall_mem_cons.mpr ⟨He.free_ok X G (c.fact 41 (f := .free "reversed") rfl), (List.forall_mem_cons.mpr ⟨He.free_ok X G (c.fact 42 (f := .free "enumerate") rfl), (List.forall_mem_cons.mpr ⟨He.free_ok X G (c.fact 43 (f := .free "zip") rfl), (List.forall_mem_cons.mpr ⟨He.free_ok X G (c.fact 44 (f := .free "bool") rfl), (List.forall_mem_cons.mpr ⟨He.free_ok X G (c.fact 45 (f := .free "tuple") rfl), (List.forall_mem_cons.mpr ⟨He.free_ok X G (c.fact 46 (f := .free "dict") rfl), (List.forall_mem_cons.mpr ⟨He.free_ok X G (c.fact 47 (f := .free "set") rfl), (List.forall_mem_cons.mpr ⟨He.free_ok X G (c.fact 48 (f := .free "sorted") rfl), (List.forall_mem_nil _)⟩)⟩)⟩)⟩)⟩)⟩)⟩)⟩)⟩)⟩)⟩)⟩)⟩)⟩)⟩)⟩)⟩)⟩)⟩)⟩)⟩)
    gls := (gls_cons (gl_str X G (c.fact 49 (f := .str "LETTERS" "abcdefghijklmnopqrstuvwxyz") rfl)) (gls_cons (gl_int X G (c.fact 50 (f := .int "LONGEST" 12) rfl)) (gls_cons (gl_int X G (c.fact 51 (f := .int "ROOM" 80) rfl)) gls_nil)))
    xs := (xs_cons (fun X e1 e2 e3 e4 hr => ⟨fun _ => raiseOk_of (by subst e3; rfl) (by subst e3; exact c.fact 52 (f := .exc "NoNumber") rfl) (by subst e3 e4; exact He.glo_ok (by assumption) G (c.fact 56 (f := .glo "NoNumber") rfl)) (by decide), fun f e => nomatch (show some none = some (some f) from e)⟩) (xs_cons (fun X e1 e2 e3 e4 hr => ⟨fun _ => raiseOk_of (by subst e3; rfl) (by subst e3; exact c.fact 53 (f := .exc "NoName") rfl) (by subst e3 e4; exact He.glo_ok (by assumption) G (c.fact 57 (f := .glo "NoName") rfl)) (by decide), fun f e => nomatch (show some none = some (some f) from e)⟩) (xs_cons (fun X e1 e2 e3 e4 hr => ⟨(fun e => nomatch (show some (some _) = some none from e)), fun f e => by cases (show some (some _) = some (some f) from e); subst e3 e4; exact raiseF_of XK0 rfl hr⟩) (xs_cons (fun X e1 e2 e3 e4 hr => ⟨fun _ => raiseOk_of (by subst e3; rfl) (by subst e3; exact c.fact 54 (f := .exc "TooMany") rfl) (by subst e3 e4; exact He.glo_ok (by assumption) G (c.fact 59 (f := .glo "TooMany") rfl)) (by decide), fun f e => nomatch (show some none = some (some f) from e)⟩) (xs_cons (fun X e1 e2 e3 e4 hr => ⟨(fun e => nomatch (show some (some _) = some none from e)), fun f e => by cases (show some (some _) = some (some f) from e); subst e3 e4; exact raiseF_of XK1 rfl hr⟩) (xs_cons (fun X e1 e2 e3 e4 hr => ⟨fun _ => raiseOk_of (by subst e3; rfl) (by subst e3; exact c.fact 55 (f := .exc "NoStand") rfl) (by subst e3 e4; exact He.glo_ok (by assumption) G (c.fact 61 (f := .glo "NoStand") rfl)) (by decide), fun f e => nomatch (show some none = some (some f) from e)⟩) xs_nil))))))
    cs := fun p hp X' e1 e2 => by subst e1 e2; exact csB_ok rfl rfl (by assumption) G cb p hp
    ics := fun p hp X' e1 e2 => by subst e1 e2; exact icB_ok rfl (by assumption) G cic p hp
    goc := rfl
    on := rfl
    fl := rfl
    xfl := rfl
    cls := ob_cls cob
    noat := ob_noat cob
    meth := ob_meth cob (by decide +kernel)
    mkr := ob_mkr X G cob (by decide +kernel) }
  exact ⟨_, fun s v => (FunD.bindsA (ps := ["_law_script"]) F36 (fun _ _ _ _ _ _ us hl => match us, hl with | [_], _ => rfl)) s [v] rfl, fun base _ _ => law_fn T (i := 36) (d := d36) rfl rfl rfl (fun ns h _ => law_ok ns h)⟩
end Z
open PySem PySem.W PySem.Calls PyProof.Rows
set_option maxRecDepth 100000 in
set_option maxHeartbeats 0 in
theorem PySem.Challenge.cw_stovework_k26_stand_in_holds : PySem.Challenge.rw_stovework_k26_stand_in.Holds := by
  w_on; o_law
  refine HandSHeadRun.head_any (r := OpenLaw.row PySem.Challenge.rw_stovework_k26_stand_in) (q := view (OpenLaw.row PySem.Challenge.rw_stovework_k26_stand_in).prog [56]) (H := Z.hk) (ob := Z.ob) (M := 9000) (loose := Z.loose) (d := HandSHeadRun.topDef (OpenLaw.row PySem.Challenge.rw_stovework_k26_stand_in).prog 56) (kwd := []) Z.ob_eq
    (by kernel_rfl) (fun s => by kernel_rfl) Z.run (by kernel_rfl) (by kernel_rfl) (by kernel_rfl) (by rfl) (by first | assumption | decide +kernel) (by decide +kernel) ⟨rfl, rfl, rfl, rfl, rfl, by decide +kernel⟩ ?hw ?hc
  case hw => w_witness2
  case hc =>
    refine L3.walk3 (lw := PySem.Challenge.rw_stovework_k26_stand_in) (lv := 2 * 10 + 2) (par := "_law_script") rfl (by kernel_rfl) ⟨rfl, by decide, by decide⟩ ?F
    intro w mg fa h Y G hmg0
    obtain ⟨K, KX, c⟩ := Y
    have hmg : mg ("law" : PySem.Str) = some (.ref fa) := by
      have e : (HandSHeadRun.topDef (OpenLaw.row PySem.Challenge.rw_stovework_k26_stand_in).prog 56).name = ("law" : PySem.Str) := by kernel_rfl
      rw [← e]
      exact hmg0
    obtain ⟨fd, hb, hF⟩ := Z.facts (Pr := (PySem.Challenge.rw_stovework_k26_stand_in).prog) (w := w) KX G hmg c
    exact ⟨K, fd, KX, hb, hF⟩

