import PyProof.Rows.All
import Wide.All
import OpenK.AllK
import Wide.FinOn
import HandS.Base
import HandS.Call
import HandS.List
import HandS.Comp
import HandS.Exc
import HandS.ExcOwn
import HandS.Words
import HandS.More
import HandS.HeadHook1
import HandS.HeadHook2
import HandS.TupAny
import HandS.Wide
import HandS.Deep
import HandS.IsInst
import HandS.Text
import HandS.Iter
import HandS.Defaults
import KE.KExcInit
import KE.KExcIs
import HandS.ExcField
import HandS.ExcIs
import HandS.ExcValue
import HandS.TryMany
import HandS.TryOnly
import HandS.Head0
import HandS.Head1
import HandS.Head2
import HandS.HeadEnd
import HandS.Style
import PySem.Challenge.RW_selfchains_k27_errors_by_hand
set_option Elab.async false
set_option linter.all false
set_option maxRecDepth 100000
set_option maxHeartbeats 0
/-! Ev0: values, stores, the relation to the layer's heap, the judgements by functions. -/
namespace Ev
open PySem PySem.Spec PyProof.Rows L2

/-- a value: tuples are pure, what can change stands in a store -/
inductive D where
  | non | bl (b : Bool) | int (i : Int) | str (x : Str) | ty (n : String) | glo (x : Str) | loc (l : Nat) | tup (ds : List D)

inductive O where
  | lst (ds : List D) | ro (ds : List D) | ins (C : Str) (fs : List (Str × D)) | dic (kvs : List (D × D)) | exc (C : Str) (fs : List (Str × D))

abbrev Store := List O
abbrev Env := List (Option D)

inductive Out (α : Type) where
  | ok (a : α) (S : Store)
  | exc (C : Str) (fs : List (Str × D)) (S : Store)
  | bad

def Out.bind {α β : Type} (o : Out α) (g : α → Store → Out β) : Out β := match o with
  | .ok a S => g a S
  | .exc C fs S => .exc C fs S
  | .bad => .bad
@[simp] theorem Out.bind_ok {α β : Type} (a : α) (S : Store) (g : α → Store → Out β) : (Out.ok a S).bind g = g a S := rfl
@[simp] theorem Out.bind_exc {α β : Type} (C : Str) (fs : List (Str × D)) (S : Store) (g : α → Store → Out β) : (Out.exc C fs S).bind g = .exc C fs S := rfl
@[simp] theorem Out.bind_bad {α β : Type} (g : α → Store → Out β) : (Out.bad : Out α).bind g = .bad := rfl
theorem Out.bind_assoc {α β γ : Type} (o : Out α) (g : α → Store → Out β) (h : β → Store → Out γ) : (o.bind g).bind h = o.bind fun a S => (g a S).bind h := by
  cases o <;> rfl

theorem nodup_ix' {l : List Addr} (hN : l.Nodup) {i j : Nat} {x : Addr} (a : l[i]? = some x) (b : l[j]? = some x) : i = j := by
  obtain ⟨h1, e1⟩ := List.getElem?_eq_some_iff.mp a
  obtain ⟨h2, e2⟩ := List.getElem?_eq_some_iff.mp b
  exact (List.getElem_inj hN).mp (e1.trans e2.symm)
/-! ### the relation -/
section
variable (K : PySem.W.Frag)
mutual
def RV (H : Hp) (ρ : List Addr) : D → V → Prop
  | .non, x => x = .non
  | .bl b, x => x = .bl b
  | .int i, x => x = .int i
  | .str z, x => x = .str z
  | .ty n, x => x = .ty n
  | .glo z, x => x = .ref (He.ga K z)
  | .loc l, x => ∃ a, ρ[l]? = some a ∧ x = .ref a
  | .tup ds, x => ∃ a xs, x = .ref a ∧ SqT K H a xs ∧ RVs H ρ ds xs
def RVs (H : Hp) (ρ : List Addr) : List D → List V → Prop
  | [], xs => xs = []
  | d :: ds, xs => ∃ x r, xs = x :: r ∧ RV H ρ d x ∧ RVs H ρ ds r
end
/-- fields by name -/
def RF (H : Hp) (ρ : List Addr) (fs : List (Str × D)) (xs : List (Str × V)) : Prop := fs.map (·.1) = xs.map (·.1) ∧ RVs K H ρ (fs.map (·.2)) (xs.map (·.2))
/-- from one state to a later one -/
structure Ext (H H' : Hp) (ρ ρ' : List Addr) : Prop where
  pre : ∃ more, ρ' = ρ ++ more
  tup : ∀ a xs, Rd H a (.tup xs) → Rd H' a (.tup xs)
  xds : ∀ d xs, H d = some (.xd xs) → H' d = some (.xd xs)
/-- an exception of the class C, its own dict at d, held as a value -/
def ExV (K : PySem.W.Frag) (C : Str) (d a : Addr) : HO := .ext fun h => ∃ (oe : Obj) (vs : Array Value), h.get? a = some oe ∧ Zc (.ref (He.ga K C)) (some d) oe ∧ oe.data = .fields vs ∧ vs[1]? = some .none
/-- what stands at an address -/
def ObjR (H : Hp) (ρ : List Addr) (a : Addr) : O → Prop
  | .lst ds => ∃ xs, H a = some (.lst xs) ∧ RVs K H ρ ds xs
  | .ro ds => ∃ xs, Rd H a (.lst xs) ∧ RVs K H ρ ds xs
  | .ins C fs => ∃ dx xs, H a = some (.ins (He.ga K C) dx xs) ∧ RF K H ρ fs xs
  | .dic _ => False
  | .exc C fs => ∃ d xs, H a = some (ExV K C d a) ∧ H d = some (.xd xs) ∧ RF K H ρ fs xs
structure RelS (H : Hp) (S : Store) (ρ : List Addr) : Prop where
  len : ρ.length = S.length
  nd : ρ.Nodup
  obj : ∀ (l : Nat) a o, ρ[l]? = some a → S[l]? = some o → ObjR K H ρ a o
def RE (H : Hp) (ρ : List Addr) (e : Env) (σ : L2.St) : Prop := e.length = σ.length ∧ ∀ (i : Nat) d, e[i]? = some (some d) → ∃ v, σ[i]? = some (some v) ∧ RV K H ρ d v
end
section
variable {K : PySem.W.Frag} {H H' H'' : Hp} {ρ ρ' ρ'' : List Addr} {S S' : Store}
theorem Ext.refl : Ext H H ρ ρ := ⟨⟨[], by simp⟩, fun _ _ h => h, fun _ _ h => h⟩
theorem Ext.trans (a : Ext H H' ρ ρ') (b : Ext H' H'' ρ' ρ'') : Ext H H'' ρ ρ'' := by
  obtain ⟨⟨m, rfl⟩, t, x⟩ := a
  obtain ⟨⟨m', rfl⟩, t', x'⟩ := b
  exact ⟨⟨m ++ m', by simp⟩, fun a xs h => t' a xs (t a xs h), fun a xs h => x' a xs (x a xs h)⟩
theorem Ext.at (e : Ext H H' ρ ρ') {l : Nat} {a : Addr} (h : ρ[l]? = some a) : ρ'[l]? = some a := by
  obtain ⟨⟨m, rfl⟩, _, _⟩ := e
  rw [List.getElem?_append_left (List.getElem?_eq_some_iff.mp h).1]; exact h
theorem Ext.sqT (e : Ext H H' ρ ρ') {a : Addr} {xs : List V} (h : SqT K H a xs) : SqT K H' a xs := by
  rcases h with h | h
  · exact .inl (e.tup a xs h)
  · exact .inr h
mutual
theorem RV.mono (e : Ext H H' ρ ρ') : ∀ {d : D} {x : V}, RV K H ρ d x → RV K H' ρ' d x
  | .non, _, h => h
  | .bl _, _, h => h
  | .int _, _, h => h
  | .str _, _, h => h
  | .ty _, _, h => h
  | .glo _, _, h => h
  | .loc l, x, h => by
    obtain ⟨a, h1, h2⟩ := (show ∃ a, ρ[l]? = some a ∧ x = .ref a by simpa [RV] using h)
    show RV K H' ρ' (.loc l) x
    simp only [RV]
    exact ⟨a, e.at h1, h2⟩
  | .tup ds, x, h => by
    simp only [RV] at h ⊢
    obtain ⟨a, xs, h1, h2, h3⟩ := h
    exact ⟨a, xs, h1, e.sqT h2, RVs.mono e h3⟩
theorem RVs.mono (e : Ext H H' ρ ρ') : ∀ {ds : List D} {xs : List V}, RVs K H ρ ds xs → RVs K H' ρ' ds xs
  | [], _, h => by simpa [RVs] using h
  | d :: ds, xs, h => by
    simp only [RVs] at h ⊢
    obtain ⟨x, r, h1, h2, h3⟩ := h
    exact ⟨x, r, h1, RV.mono e h2, RVs.mono e h3⟩
end
theorem RVs.nil : RVs K H ρ [] [] := by simp [RVs]
theorem RVs.cons {d : D} {ds : List D} {x : V} {xs : List V} (h : RV K H ρ d x) (t : RVs K H ρ ds xs) : RVs K H ρ (d :: ds) (x :: xs) := by
  simp only [RVs]; exact ⟨x, xs, rfl, h, t⟩
theorem RVs.cons_inv {d : D} {ds : List D} {xs : List V} (h : RVs K H ρ (d :: ds) xs) : ∃ x r, xs = x :: r ∧ RV K H ρ d x ∧ RVs K H ρ ds r := by
  simpa only [RVs] using h
theorem RVs.nil_inv {xs : List V} (h : RVs K H ρ [] xs) : xs = [] := by simpa only [RVs] using h
theorem RVs.length : ∀ {ds : List D} {xs : List V}, RVs K H ρ ds xs → xs.length = ds.length
  | [], xs, h => by rw [h.nil_inv]; rfl
  | d :: ds, xs, h => by
    obtain ⟨x, r, rfl, _, t⟩ := h.cons_inv
    rw [List.length_cons, List.length_cons, RVs.length t]
theorem RVs.get : ∀ {ds : List D} {xs : List V} {i : Nat} {d : D}, RVs K H ρ ds xs → ds[i]? = some d → ∃ x, xs[i]? = some x ∧ RV K H ρ d x
  | [], _, _, _, _, e => by simp at e
  | d :: ds, xs, 0, d', h, e => by
    obtain ⟨x, r, rfl, h1, _⟩ := h.cons_inv
    simp at e; subst e
    exact ⟨x, rfl, h1⟩
  | d :: ds, xs, i + 1, d', h, e => by
    obtain ⟨x, r, rfl, _, t⟩ := h.cons_inv
    obtain ⟨y, h1, h2⟩ := RVs.get (i := i) t (by simpa using e)
    exact ⟨y, by simpa using h1, h2⟩
theorem RVs.append : ∀ {ds es : List D} {xs ys : List V}, RVs K H ρ ds xs → RVs K H ρ es ys → RVs K H ρ (ds ++ es) (xs ++ ys)
  | [], _, _, _, h, t => by rw [h.nil_inv]; exact t
  | d :: ds, es, xs, ys, h, t => by
    obtain ⟨x, r, rfl, h1, h2⟩ := h.cons_inv
    exact RVs.cons h1 (RVs.append h2 t)
theorem RVs.take : ∀ {ds : List D} {xs : List V} (n : Nat), RVs K H ρ ds xs → RVs K H ρ (ds.take n) (xs.take n)
  | [], _, n, h => by rw [h.nil_inv]; simpa using RVs.nil
  | d :: ds, _, 0, h => by simpa using RVs.nil
  | d :: ds, xs, n + 1, h => by
    obtain ⟨x, r, rfl, h1, h2⟩ := h.cons_inv
    exact RVs.cons h1 (RVs.take n h2)
theorem RVs.drop : ∀ {ds : List D} {xs : List V} (n : Nat), RVs K H ρ ds xs → RVs K H ρ (ds.drop n) (xs.drop n)
  | [], _, n, h => by rw [h.nil_inv]; simpa using RVs.nil
  | d :: ds, _, 0, h => h
  | d :: ds, xs, n + 1, h => by
    obtain ⟨x, r, rfl, h1, h2⟩ := h.cons_inv
    exact RVs.drop n h2
theorem RVs.set {d : D} {x : V} (h : RV K H ρ d x) : ∀ {ds : List D} {xs : List V} (n : Nat), RVs K H ρ ds xs → RVs K H ρ (ds.set n d) (xs.set n x)
  | [], _, n, t => by rw [t.nil_inv]; simpa using RVs.nil
  | e :: ds, _, 0, t => by
    obtain ⟨y, r, rfl, h1, h2⟩ := t.cons_inv
    exact RVs.cons h h2
  | e :: ds, xs, n + 1, t => by
    obtain ⟨y, r, rfl, h1, h2⟩ := t.cons_inv
    exact RVs.cons h1 (RVs.set h n h2)
theorem RVs.one {d : D} {x : V} (h : RV K H ρ d x) : RVs K H ρ [d] [x] := RVs.cons h RVs.nil
theorem RVs.one_inv {d : D} {xs : List V} (h : RVs K H ρ [d] xs) : ∃ x, xs = [x] ∧ RV K H ρ d x := by
  obtain ⟨x, r, rfl, h1, h2⟩ := h.cons_inv
  rw [h2.nil_inv]; exact ⟨x, rfl, h1⟩
theorem RVs.two_inv {d d' : D} {xs : List V} (h : RVs K H ρ [d, d'] xs) : ∃ x y, xs = [x, y] ∧ RV K H ρ d x ∧ RV K H ρ d' y := by
  obtain ⟨x, r, rfl, h1, h2⟩ := h.cons_inv
  obtain ⟨y, rfl, h3⟩ := h2.one_inv
  exact ⟨x, y, rfl, h1, h3⟩
theorem RF.mono (e : Ext H H' ρ ρ') {fs : List (Str × D)} {xs : List (Str × V)} (h : RF K H ρ fs xs) : RF K H' ρ' fs xs := ⟨h.1, h.2.mono e⟩
theorem RF.nil : RF K H ρ [] [] := ⟨rfl, RVs.nil⟩
theorem RF.lookup : ∀ {fs : List (Str × D)} {xs : List (Str × V)} {f : Str}, RF K H ρ fs xs → (∀ d, fs.lookup f = some d → ∃ x, xs.lookup f = some x ∧ RV K H ρ d x) ∧ (fs.lookup f = none → xs.lookup f = none)
  | [], [], f, _ => ⟨fun d h => (nomatch h), fun _ => rfl⟩
  | [], y :: ys, f, h => by have := h.1; simp at this
  | p :: fs, [], f, h => by have := h.1; simp at this
  | (g, d) :: fs, (g', x) :: xs, f, h => by
    obtain ⟨h1, h2⟩ := h
    simp only [List.map_cons, List.cons.injEq] at h1
    obtain ⟨x', r, e, rv, rt⟩ := h2.cons_inv
    simp only [List.map_cons, List.cons.injEq] at e
    obtain ⟨rfl, rfl⟩ := e
    obtain ⟨eg, h1⟩ := h1
    subst eg
    have ih := RF.lookup (f := f) (show RF K H ρ fs xs from ⟨h1, rt⟩)
    by_cases q : f = g
    · subst q
      simp only [List.lookup_cons_self]
      exact ⟨fun d' e => by cases e; exact ⟨_, rfl, rv⟩, fun e => (nomatch e)⟩
    · have hb : (f == g) = false := beq_eq_false_iff_ne.mpr q
      simp only [List.lookup, hb]
      exact ih
/-- a field is stored -/
def putD (f : Str) (v : D) : List (Str × D) → List (Str × D)
  | [] => [(f, v)]
  | (g, x) :: r => if g = f then (g, v) :: r else (g, x) :: putD f v r
theorem RF.put {f : Str} {d : D} {x : V} (hx : RV K H ρ d x) : ∀ {fs : List (Str × D)} {xs : List (Str × V)}, RF K H ρ fs xs → RF K H ρ (putD f d fs) (putF f x xs)
  | [], [], _ => ⟨rfl, RVs.one hx⟩
  | [], y :: ys, h => by have := h.1; simp at this
  | p :: fs, [], h => by have := h.1; simp at this
  | (g, d') :: fs, (g', x') :: xs, h => by
    obtain ⟨h1, h2⟩ := h
    simp only [List.map_cons, List.cons.injEq] at h1
    obtain ⟨y, r, e, rv, rt⟩ := h2.cons_inv
    simp only [List.map_cons, List.cons.injEq] at e
    obtain ⟨rfl, rfl⟩ := e
    obtain ⟨eg, h1⟩ := h1
    have eg : g = g' := eg
    subst eg
    have ih := RF.put (f := f) hx (show RF K H ρ fs xs from ⟨h1, rt⟩)
    unfold putD putF
    by_cases q : g = f
    · rw [if_pos q, if_pos q]
      exact ⟨by simp [h1], RVs.cons hx rt⟩
    · rw [if_neg q, if_neg q]
      exact ⟨by simp [ih.1], RVs.cons rv ih.2⟩
theorem RF.length {fs : List (Str × D)} {xs : List (Str × V)} (h : RF K H ρ fs xs) : xs.length = fs.length := by
  have := congrArg List.length h.1
  simpa using this.symm
theorem ObjR.mono {a : Addr} {o : O} (h : ObjR K H ρ a o) (e : Ext H H' ρ ρ') (k : H' a = H a) : ObjR K H' ρ' a o := by
  cases o with
  | lst ds => obtain ⟨xs, h1, h2⟩ := h; exact ⟨xs, by rw [k]; exact h1, h2.mono e⟩
  | ro ds =>
    obtain ⟨xs, h1, h2⟩ := h
    refine ⟨xs, ?_, h2.mono e⟩
    unfold Rd; rw [k]; exact h1
  | ins C fs => obtain ⟨dx, xs, h1, h2⟩ := h; exact ⟨dx, xs, by rw [k]; exact h1, h2.mono e⟩
  | dic _ => exact h.elim
  | exc C fs => obtain ⟨d, xs, h1, h2, h3⟩ := h; exact ⟨d, xs, by rw [k]; exact h1, e.xds _ _ h2, h3.mono e⟩
theorem ObjR.there {a : Addr} {o : O} (h : ObjR K H ρ a o) : ∃ u, H a = some u := by
  cases o with
  | lst ds => obtain ⟨xs, h1, _⟩ := h; exact ⟨_, h1⟩
  | ro ds =>
    obtain ⟨xs, h1, _⟩ := h
    rcases h1 with h1 | ⟨ob, h1⟩
    · exact ⟨_, h1⟩
    · exact ⟨_, h1⟩
  | ins C fs => obtain ⟨dx, xs, h1, h2⟩ := h; exact ⟨_, h1⟩
  | dic _ => exact h.elim
  | exc C fs => obtain ⟨d, xs, h1, h2, h3⟩ := h; exact ⟨_, h1⟩
theorem ObjR.noTup {a : Addr} {o : O} (h : ObjR K H ρ a o) : ∀ xs, ¬ Rd H a (.tup xs) := by
  intro ys q
  cases o with
  | lst ds =>
    obtain ⟨xs, h1, _⟩ := h
    rcases q with q | ⟨ob, q⟩ <;> (rw [h1] at q; cases q)
  | ro ds =>
    obtain ⟨xs, h1, _⟩ := h
    rcases h1 with h1 | ⟨ob, h1⟩ <;> rcases q with q | ⟨ob', q⟩ <;> (rw [h1] at q; cases q)
  | ins C fs =>
    obtain ⟨dx, xs, h1, h2⟩ := h
    rcases q with q | ⟨ob, q⟩ <;> (rw [h1] at q; cases q)
  | dic _ => exact h.elim
  | exc C fs =>
    obtain ⟨d, xs, h1, h2, h3⟩ := h
    rcases q with q | ⟨ob, q⟩ <;> (rw [h1] at q; cases q)
theorem ObjR.noXd {a : Addr} {o : O} (h : ObjR K H ρ a o) : ∀ xs, ¬ H a = some (.xd xs) := by
  intro ys q
  cases o with
  | lst ds => obtain ⟨xs, h1, _⟩ := h; rw [h1] at q; cases q
  | ro ds => obtain ⟨xs, h1, _⟩ := h; rcases h1 with h1 | ⟨ob, h1⟩ <;> (rw [h1] at q; cases q)
  | ins C fs => obtain ⟨dx, xs, h1, h2⟩ := h; rw [h1] at q; cases q
  | dic _ => exact h.elim
  | exc C fs => obtain ⟨d, xs, h1, h2, h3⟩ := h; rw [h1] at q; cases q
theorem RelS.at (r : RelS K H S ρ) {l : Nat} {o : O} (h : S[l]? = some o) : ∃ a, ρ[l]? = some a ∧ ObjR K H ρ a o := by
  have hl : l < ρ.length := by rw [r.len]; exact (List.getElem?_eq_some_iff.mp h).1
  exact ⟨ρ[l], List.getElem?_eq_getElem hl, r.obj l _ o (List.getElem?_eq_getElem hl) h⟩
theorem RelS.at' (r : RelS K H S ρ) {l : Nat} {a : Addr} (h : ρ[l]? = some a) : ∃ o, S[l]? = some o ∧ ObjR K H ρ a o := by
  have hl : l < S.length := by rw [← r.len]; exact (List.getElem?_eq_some_iff.mp h).1
  exact ⟨S[l], List.getElem?_eq_getElem hl, r.obj l a _ h (List.getElem?_eq_getElem hl)⟩
/-- nothing of the store is at a free place -/
theorem RelS.fresh (r : RelS K H S ρ) {p : Addr} (h : H p = none) : p ∉ ρ := by
  intro hm
  obtain ⟨l, hl⟩ := List.mem_iff_getElem?.mp hm
  obtain ⟨o, _, ho⟩ := r.at' hl
  obtain ⟨u, hu⟩ := ho.there
  rw [h] at hu; cases hu
/-- the heap grows by what the store doesn't know -/
theorem Ext.upd_new {p : Addr} {o : HO} (h : H p = none) : Ext H (upd H p o) ρ ρ :=
  ⟨⟨[], by simp⟩, fun a xs q => by
    have ne : a ≠ p := by
      rintro rfl
      rcases q with q | ⟨ob, q⟩ <;> (rw [h] at q; cases q)
    unfold Rd at q ⊢; rw [upd_ne ne]; exact q, fun a xs q => by rw [upd_ne (ne_of_none q h)]; exact q⟩
theorem RelS.upd_new (r : RelS K H S ρ) {p : Addr} {o : HO} (h : H p = none) : RelS K (upd H p o) S ρ :=
  ⟨r.len, r.nd, fun l a ob h1 h2 => by
    refine (r.obj l a ob h1 h2).mono (Ext.upd_new h) ?_
    have ne : a ≠ p := fun e => r.fresh h (e ▸ List.mem_of_getElem? h1)
    rw [upd_ne ne]⟩
/-- .. and the store by its newest -/
theorem Ext.push {p : Addr} {o : HO} (h : H p = none) : Ext H (upd H p o) ρ (ρ ++ [p]) := ⟨⟨[p], rfl⟩, (Ext.upd_new (ρ := ρ) h).tup, (Ext.upd_new (ρ := ρ) h).xds⟩
theorem RelS.push (r : RelS K H S ρ) {p : Addr} {o : HO} {ob : O} (h : H p = none) (new : ObjR K (upd H p o) (ρ ++ [p]) p ob) : RelS K (upd H p o) (S ++ [ob]) (ρ ++ [p]) := by
  have nm := r.fresh h
  refine ⟨by simp [r.len], ?_, fun l a u h1 h2 => ?_⟩
  · rw [List.nodup_append]
    refine ⟨r.nd, by simp, fun a ha b hb => ?_⟩
    have e : b = p := by simpa using hb
    rintro rfl
    exact nm (e ▸ ha)
  · by_cases hl : l < ρ.length
    · rw [List.getElem?_append_left hl] at h1
      rw [List.getElem?_append_left (by rw [← r.len]; exact hl)] at h2
      refine (r.obj l a u h1 h2).mono (Ext.push h) ?_
      have ne : a ≠ p := fun e => nm (e ▸ List.mem_of_getElem? h1)
      rw [upd_ne ne]
    · have e1 : l = ρ.length := by
        have := (List.getElem?_eq_some_iff.mp h1).1
        simp at this; omega
      subst e1
      rw [List.getElem?_append_right (Nat.le_refl _)] at h1
      rw [r.len, List.getElem?_append_right (Nat.le_refl _)] at h2
      simp at h1 h2
      subst h1 h2
      exact new
/-- an object of the store is written -/
theorem Ext.write (r : RelS K H S ρ) {l : Nat} {a : Addr} {o : HO} (h : ρ[l]? = some a) : Ext H (upd H a o) ρ ρ := by
  obtain ⟨ob, _, ho⟩ := r.at' h
  refine ⟨⟨[], by simp⟩, fun b xs q => ?_, fun b xs q => ?_⟩
  · have ne : b ≠ a := by
      rintro rfl
      exact ho.noTup _ q
    unfold Rd at q ⊢; rw [upd_ne ne]; exact q
  · have ne : b ≠ a := by
      rintro rfl
      exact ho.noXd _ q
    rw [upd_ne ne]; exact q
theorem RelS.write (r : RelS K H S ρ) {l : Nat} {a : Addr} {o : HO} {ob : O} (h : ρ[l]? = some a) (new : ObjR K (upd H a o) ρ a ob) : RelS K (upd H a o) (S.set l ob) ρ := by
  refine ⟨by simp [r.len], r.nd, fun k b u h1 h2 => ?_⟩
  by_cases e : k = l
  · subst e
    rw [h] at h1; cases h1
    rw [List.getElem?_set_self (by rw [← r.len]; exact (List.getElem?_eq_some_iff.mp h).1)] at h2
    cases h2
    exact new
  · rw [List.getElem?_set_ne (Ne.symm e)] at h2
    refine (r.obj k b u h1 h2).mono (Ext.write r h) ?_
    have ne : b ≠ a := fun q => e (nodup_ix' r.nd h1 (q ▸ h))
    rw [upd_ne ne]
theorem RE.mono (x : Ext H H' ρ ρ') {e : Env} {σ : L2.St} (h : RE K H ρ e σ) : RE K H' ρ' e σ :=
  ⟨h.1, fun i d hi => by
    obtain ⟨v, h1, h2⟩ := h.2 i d hi
    exact ⟨v, h1, h2.mono x⟩⟩
theorem RE.set {e : Env} {σ : L2.St} {d : D} {x : V} (h : RE K H ρ e σ) (i : Nat) (hx : RV K H ρ d x) : RE K H ρ (e.set i (some d)) (σ.set i (some x)) := by
  refine ⟨by simp [h.1], fun j d' hj => ?_⟩
  by_cases q : i = j
  · subst q
    have hi : i < e.length := by
      have := (List.getElem?_eq_some_iff.mp hj).1
      simpa using this
    rw [List.getElem?_set_self hi] at hj
    cases hj
    exact ⟨x, by rw [List.getElem?_set_self (by rw [← h.1]; exact hi)], hx⟩
  · rw [List.getElem?_set_ne q] at hj
    obtain ⟨v, h1, h2⟩ := h.2 j d' hj
    exact ⟨v, by rw [List.getElem?_set_ne q]; exact h1, h2⟩
end

/-! ### ends -/
/-- what is wanted of an outcome: RA relates what it hands back -/
def Aft (K : PySem.W.Frag) (E : XK) (H : Hp) (ρ : List Addr) {α β : Type} (RA : Hp → List Addr → α → β → Prop) (o : Out α) (Q : β → Hp → Prop) : Prop := match o with
  | .ok v S => ∀ ρ' H' x, RelS K H' S ρ' → Ext H H' ρ ρ' → RA H' ρ' v x → Q x H'
  | .exc C fs S => ∀ ρ' H' d xs, RelS K H' S ρ' → Ext H H' ρ ρ' → H' d = some (.xd xs) → RF K H' ρ' fs xs → E (.ref (He.ga K C)) (some d) H'
  | .bad => False
section
variable {K : PySem.W.Frag} {E : XK} {H H' : Hp} {ρ ρ' : List Addr} {α β γ δ : Type} {RA : Hp → List Addr → α → β → Prop} {RB : Hp → List Addr → γ → δ → Prop}
theorem Aft.later {o : Out α} {Q : β → Hp → Prop} (x : Ext H H' ρ ρ') (h : Aft K E H ρ RA o Q) : Aft K E H' ρ' RA o Q := by
  cases o with
  | ok v S => exact fun ρ1 H1 y r e ra => h ρ1 H1 y r (x.trans e) ra
  | exc C fs S => exact fun ρ1 H1 d xs r e hd rf => h ρ1 H1 d xs r (x.trans e) hd rf
  | bad => exact h
theorem Aft.split {o : Out α} {g : α → Store → Out γ} {Q : δ → Hp → Prop} (h : Aft K E H ρ RB (o.bind g) Q) :
    Aft K E H ρ RA o (fun x H1 => ∃ v S1 ρ1, RelS K H1 S1 ρ1 ∧ Ext H H1 ρ ρ1 ∧ RA H1 ρ1 v x ∧ Aft K E H1 ρ1 RB (g v S1) Q) := by
  cases o with
  | ok v S => exact fun ρ1 H1 y r e ra => ⟨v, S, ρ1, r, e, ra, Aft.later e h⟩
  | exc C fs S => exact h
  | bad => exact h
theorem Aft.imp {o : Out α} {Q Q' : β → Hp → Prop} (h : Aft K E H ρ RA o Q) (k : ∀ x H', Q x H' → Q' x H') : Aft K E H ρ RA o Q' := by
  cases o with
  | ok v S => exact fun ρ1 H1 y r e ra => k _ _ (h ρ1 H1 y r e ra)
  | exc C fs S => exact h
  | bad => exact h
end

/-! ### the judgements -/
abbrev Ex := Env → Store → Out D
abbrev Te := Env → Store → Out Bool
abbrev Ag := Env → Store → Out (List D)
abbrev RB' : Hp → List Addr → Bool → Bool → Prop := fun _ _ a b => a = b
section
variable (K : PySem.W.Frag) (W : WX)
def tEv (f : Ex) : TE := fun σ H Q => ∃ e S ρ, RelS K H S ρ ∧ RE K H ρ e σ ∧ Aft K (WE W σ) H ρ (RV K) (f e S) Q
def tTe (f : Te) : TT := fun σ H Q => ∃ e S ρ, RelS K H S ρ ∧ RE K H ρ e σ ∧ Aft K (WE W σ) H ρ RB' (f e S) Q
def tAg (f : Ag) : TA := fun σ H Q => ∃ e S ρ, RelS K H S ρ ∧ RE K H ρ e σ ∧ Aft K (WE W σ) H ρ (RVs K) (f e S) Q
end
section
variable {X : Cx} {W : WX} {e a b : Expr} {es : List Expr} {pos : Pos} {f g : Ex}
theorem PE.by {t t' : TE} (h : PE X e t) (k : ∀ σ H Q, t' σ H Q → t σ H Q) : PE X e t' := ⟨fun pins s σ H Q I q => h.run pins s σ H Q I (k σ H Q q)⟩
theorem PT.by {t t' : TT} (h : PT X e t) (k : ∀ σ H Q, t' σ H Q → t σ H Q) : PT X e t' := ⟨fun pins s σ H Q I q => h.run pins s σ H Q I (k σ H Q q)⟩
theorem PW.by {t t' : TT} (h : PW X e t) (k : ∀ σ H Q, t' σ H Q → t σ H Q) : PW X e t' := ⟨fun wh pins s σ H Q I q => h.run wh pins s σ H Q I (k σ H Q q)⟩
theorem PA.by {t t' : TA} (h : PA X es t) (k : ∀ σ H Q, t' σ H Q → t σ H Q) : PA X es t' := ⟨fun pos pins s σ H Q I q => h.run pos pins s σ H Q I (k σ H Q q)⟩

/-! names and constants -/
def eVar (i : Nat) : Ex := fun e S => match e[i]? with
  | some (some d) => .ok d S
  | _ => .bad
def eC (d : D) : Ex := fun _ S => .ok d S
theorem ev_var {i : Nat} (h : PE X e (tVar i)) : PE X e (tEv X.K W (eVar i)) := PE.by h fun σ H Q ⟨en, S, ρ, rs, re, q⟩ => by
  unfold eVar at q
  split at q
  · rename_i d hd
    obtain ⟨v, h1, h2⟩ := re.2 i d hd
    exact ⟨v, h1, q ρ H v rs .refl h2⟩
  · exact q.elim
theorem ev_c {d : D} {v : V} (h : PE X e (tC v)) (hv : ∀ H ρ, RV X.K H ρ d v) : PE X e (tEv X.K W (eC d)) := PE.by h fun σ H Q ⟨en, S, ρ, rs, re, q⟩ => q ρ H v rs .refl (hv H ρ)
theorem rv_int {K : PySem.W.Frag} {H : Hp} {ρ : List Addr} (i : Int) : RV K H ρ (.int i) (.int i) := by simp [RV]
theorem rv_str {K : PySem.W.Frag} {H : Hp} {ρ : List Addr} (i : Str) : RV K H ρ (.str i) (.str i) := by simp [RV]
theorem rv_bl {K : PySem.W.Frag} {H : Hp} {ρ : List Addr} (i : Bool) : RV K H ρ (.bl i) (.bl i) := by simp [RV]
theorem rv_non {K : PySem.W.Frag} {H : Hp} {ρ : List Addr} : RV K H ρ .non .non := by simp [RV]
theorem rv_glo {K : PySem.W.Frag} {H : Hp} {ρ : List Addr} (x : Str) : RV K H ρ (.glo x) (.ref (He.ga K x)) := by simp [RV]
theorem ev_int {i : Int} {j} : PE X (.Constant (.int i) j pos) (tEv X.K W (eC (.int i))) := ev_c pe_int fun _ _ => rv_int i
theorem ev_str {x : Str} {j} : PE X (.Constant (.str x) j pos) (tEv X.K W (eC (.str x))) := ev_c pe_str fun _ _ => rv_str x
theorem ev_bl {b : Bool} {j} : PE X (.Constant (.bool b) j pos) (tEv X.K W (eC (.bl b))) := ev_c pe_bl fun _ _ => rv_bl b
theorem ev_non {j} : PE X (.Constant .none j pos) (tEv X.K W (eC .non)) := ev_c pe_non fun _ _ => rv_non

/-! two in a row -/
def e2 (f g : Ex) (k : D → D → Store → Out D) : Ex := fun e S => (f e S).bind fun x S1 => (g e S1).bind fun y S2 => k x y S2
/-- an operation on values, that raises nothing -/
def rD2 (K : PySem.W.Frag) (k : D → D → Store → Out D) : R2 := fun x y H Q => ∃ dx dy S ρ, RelS K H S ρ ∧ RV K H ρ dx x ∧ RV K H ρ dy y ∧ (∃ v S', k dx dy S = .ok v S') ∧ Aft K E0 H ρ (RV K) (k dx dy S) Q
def noExc (k : D → D → Store → Out D) : Prop := ∀ x y S C fs S', k x y S ≠ .exc C fs S'
theorem ev_two {k : D → D → Store → Out D} {t : TE} {r : R2} (h : PE X e t) (ht : t = tOp r (tEv X.K W f) (tEv X.K W g)) (hr : ∀ x y H Q, rD2 X.K k x y H Q → r x y H Q) (hn : noExc k) : PE X e (tEv X.K W (e2 f g k)) := by
  subst ht
  refine PE.by h fun σ H Q ⟨en, S, ρ, rs, re, q⟩ => ?_
  refine ⟨en, S, ρ, rs, re, (Aft.split q).imp ?_⟩
  rintro x H1 ⟨v, S1, ρ1, r1, x1, rv1, q1⟩
  refine ⟨en, S1, ρ1, r1, re.mono x1, (Aft.split q1).imp ?_⟩
  rintro y H2 ⟨u, S2, ρ2, r2, x2, rv2, q2⟩
  refine hr x y H2 Q ⟨v, u, S2, ρ2, r2, rv1.mono x2, rv2, ?_, ?_⟩
  · cases hk : k v u S2 with
    | ok z S' => exact ⟨z, S', rfl⟩
    | exc C fs S' => exact (hn _ _ _ _ _ _ hk).elim
    | bad => rw [hk] at q2; exact q2.elim
  · cases hk : k v u S2 with
    | ok z S' => rw [hk] at q2; exact q2
    | exc C fs S' => exact (hn _ _ _ _ _ _ hk).elim
    | bad => rw [hk] at q2; exact q2.elim
end
end Ev

/-! Ev1: operators, comparisons, displays, subscripts, slices. -/
namespace Ev
open PySem PySem.Spec PyProof.Rows L2

/-! ### data of a value -/
section
variable (lk : Nat → Option (List PyData))
mutual
def pyD : D → Option PyData
  | .non => some .none
  | .bl b => some (.bool b)
  | .int i => some (.int i)
  | .str z => some (.str z)
  | .ty _ => none
  | .glo _ => none
  | .loc l => (lk l).map .list
  | .tup ds => (pyDs ds).map .tuple
def pyDs : List D → Option (List PyData)
  | [] => some []
  | d :: ds => match pyD d, pyDs ds with
    | some x, some xs => some (x :: xs)
    | _, _ => none
end
end
def lkS : Nat → Store → Nat → Option (List PyData)
  | 0, _, _ => none
  | n + 1, S, l => match S[l]? with
    | some (.lst ds) => pyDs (lkS n S) ds
    | some (.ro ds) => pyDs (lkS n S) ds
    | _ => none
def toPy (S : Store) (d : D) : Option PyData := pyD (lkS 5 S) d
section
variable {K : PySem.W.Frag} {H : Hp} {ρ : List Addr} {S : Store}
theorem ro_seq {a : Addr} {ds : List D} (h : ObjR K H ρ a (.ro ds)) : ∃ xs, SqL K H a xs ∧ RVs K H ρ ds xs := by
  obtain ⟨xs, h1, h2⟩ := h
  exact ⟨xs, .inl h1, h2⟩
theorem lst_seq {a : Addr} {ds : List D} (h : ObjR K H ρ a (.lst ds)) : ∃ xs, SqL K H a xs ∧ RVs K H ρ ds xs := by
  obtain ⟨xs, h1, h2⟩ := h
  exact ⟨xs, .inl (.inl h1), h2⟩
/-- the items of a list of the store -/
def lstAt (S : Store) (l : Nat) : Option (List D) := match S[l]? with
  | some (.lst ds) => some ds
  | some (.ro ds) => some ds
  | _ => none
theorem lstAt_seq (r : RelS K H S ρ) {l : Nat} {ds : List D} {a : Addr} (hl : ρ[l]? = some a) (h : lstAt S l = some ds) : ∃ xs, SqL K H a xs ∧ RVs K H ρ ds xs := by
  obtain ⟨o, ho, hr⟩ := r.at' hl
  unfold lstAt at h
  rw [ho] at h
  cases o with
  | lst es => cases h; exact lst_seq hr
  | ro es => cases h; exact ro_seq hr
  | ins C fs => cases h
  | dic _ => cases h
  | exc _ _ => cases h
section
variable {lk : Nat → Option (List PyData)}
mutual
theorem pyD_dp (hlk : ∀ l ps, lk l = some ps → ∀ a, ρ[l]? = some a → Dp K H (.ref a) (.list ps)) : ∀ (d : D) (p : PyData) (x : V), pyD lk d = some p → RV K H ρ d x → Dp K H x p
  | .non, p, x, h, r => by simp [pyD] at h; simp [RV] at r; subst h r; exact .non
  | .bl b, p, x, h, r => by simp [pyD] at h; simp [RV] at r; subst h r; exact .bl b
  | .int b, p, x, h, r => by simp [pyD] at h; simp [RV] at r; subst h r; exact .int b
  | .str b, p, x, h, r => by simp [pyD] at h; simp [RV] at r; subst h r; exact .str b
  | .ty _, p, x, h, r => by simp [pyD] at h
  | .glo _, p, x, h, r => by simp [pyD] at h
  | .loc l, p, x, h, r => by
    simp only [pyD, Option.map_eq_some_iff] at h
    simp only [RV] at r
    obtain ⟨ps, h1, rfl⟩ := h
    obtain ⟨a, h2, rfl⟩ := r
    exact hlk l ps h1 a h2
  | .tup ds, p, x, h, r => by
    simp only [pyD, Option.map_eq_some_iff] at h
    simp only [RV] at r
    obtain ⟨ps, h1, rfl⟩ := h
    obtain ⟨a, xs, rfl, h2, h3⟩ := r
    exact .tup h2 (pyDs_dp hlk ds ps xs h1 h3)
theorem pyDs_dp (hlk : ∀ l ps, lk l = some ps → ∀ a, ρ[l]? = some a → Dp K H (.ref a) (.list ps)) : ∀ (ds : List D) (ps : List PyData) (xs : List V), pyDs lk ds = some ps → RVs K H ρ ds xs → DpAll K H xs ps
  | [], ps, xs, h, r => by simp [pyDs] at h; rw [r.nil_inv]; subst h; exact .nil
  | d :: ds, ps, xs, h, r => by
    obtain ⟨x, t, rfl, r1, r2⟩ := r.cons_inv
    unfold pyDs at h
    split at h
    · rename_i p qs e1 e2
      cases h
      exact .cons (pyD_dp hlk d p x e1 r1) (pyDs_dp hlk ds qs t e2 r2)
    · cases h
end
end
theorem lkS_dp (r : RelS K H S ρ) : ∀ (n : Nat) (l : Nat) (ps : List PyData), lkS n S l = some ps → ∀ a, ρ[l]? = some a → Dp K H (.ref a) (.list ps)
  | 0, _, _, h, _, _ => by cases h
  | n + 1, l, ps, h, a, hl => by
    obtain ⟨o, ho, hr⟩ := r.at' hl
    unfold lkS at h
    rw [ho] at h
    cases o with
    | lst es =>
      obtain ⟨xs, h1, h2⟩ := lst_seq hr
      exact .lst h1 (pyDs_dp (fun l ps e a' h' => lkS_dp r n l ps e a' h') es ps xs h h2)
    | ro es =>
      obtain ⟨xs, h1, h2⟩ := ro_seq hr
      exact .lst h1 (pyDs_dp (fun l ps e a' h' => lkS_dp r n l ps e a' h') es ps xs h h2)
    | ins C fs => cases h
    | dic _ => cases h
    | exc _ _ => cases h
theorem toPy_dp (r : RelS K H S ρ) {d : D} {p : PyData} {x : V} (h : toPy S d = some p) (rv : RV K H ρ d x) : Dp K H x p := pyD_dp (lkS_dp r 5) d p x h rv
end

/-! ### two-place operations, by values -/
/-- a list | a tuple -/
def tupOf : D → Option (List D)
  | .tup ds => some ds
  | _ => none
def newL (ds : List D) (S : Store) : Out D := if ds.length ≤ sizeLine then .ok (.loc S.length) (S ++ [.lst ds]) else .bad
def dAdd : D → D → Store → Out D
  | .int i, .int j, S => .ok (.int (i + j)) S
  | .str i, .str j, S => if i.length + j.length ≤ sizeLine then .ok (.str (i ++ j)) S else .bad
  | .tup a, .tup b, S => if a.length + b.length ≤ sizeLine then .ok (.tup (a ++ b)) S else .bad
  | .loc a, .loc b, S => match S[a]?, S[b]? with
    | some (.lst xs), some (.lst ys) => newL (xs ++ ys) S
    | _, _ => .bad
  | _, _, _ => .bad
def dSub : D → D → Store → Out D
  | .int i, .int j, S => .ok (.int (i - j)) S
  | _, _, _ => .bad
def dMul : D → D → Store → Out D
  | .int i, .int j, S => if (-(2 ^ 64) < i ∧ i < 2 ^ 64) ∨ (-(2 ^ 64) < j ∧ j < 2 ^ 64) then .ok (.int (i * j)) S else .bad
  | _, _, _ => .bad
def dMod : D → D → Store → Out D
  | .int i, .int j, S => if 0 < j then .ok (.int (i % j)) S else .bad
  | _, _, _ => .bad
def dDiv : D → D → Store → Out D
  | .int i, .int j, S => if 0 < j ∧ j.natAbs.log2 < 9000 then .ok (.int (i / j)) S else .bad
  | _, _, _ => .bad
def dPow : D → D → Store → Out D
  | .int i, .int j, S => if 0 ≤ j ∧ j ≤ 1000000 ∧ i.natAbs < 2 ^ 64 then .ok (.int (i ^ j.toNat)) S else .bad
  | _, _, _ => .bad
def dLt : D → D → Store → Out D
  | .int i, .int j, S => .ok (.bl (decide (i < j))) S
  | _, _, _ => .bad
def dLe : D → D → Store → Out D
  | .int i, .int j, S => .ok (.bl (decide (i ≤ j))) S
  | _, _, _ => .bad
def dGt : D → D → Store → Out D
  | .int i, .int j, S => .ok (.bl (decide (j < i))) S
  | _, _, _ => .bad
def dGe : D → D → Store → Out D
  | .int i, .int j, S => .ok (.bl (decide (j ≤ i))) S
  | _, _, _ => .bad
def dEqB (x y : D) (S : Store) : Option Bool := match toPy S x, toPy S y with
  | some p, some q => if SeqAt.shaped p = true ∧ SeqAt.shaped q = true then some (PyData.eqv p q) else none
  | _, _ => none
def dEq (x y : D) (S : Store) : Out D := match dEqB x y S with
  | some b => .ok (.bl b) S
  | none => .bad
def dNe (x y : D) (S : Store) : Out D := match dEqB x y S with
  | some b => .ok (.bl (!b)) S
  | none => .bad
def dIsN (x y : D) (S : Store) : Out D := match y, x with
  | .non, .non => .ok (.bl true) S
  | .non, _ => .ok (.bl false) S
  | _, _ => .bad
def dIsNot (x y : D) (S : Store) : Out D := match y, x with
  | .non, .non => .ok (.bl false) S
  | .non, _ => .ok (.bl true) S
  | _, _ => .bad
/-- flat values -/
def flatD : D → Option V
  | .non => some .non
  | .bl b => some (.bl b)
  | .int i => some (.int i)
  | .str z => some (.str z)
  | _ => none
def flatDs : List D → Option (List V)
  | [] => some []
  | d :: ds => match flatD d, flatDs ds with
    | some x, some xs => some (x :: xs)
    | _, _ => none
/-- x in y: a text's part; an item of a list or a tuple of flat things; data of any depth in a list -/
def dInB (x y : D) (S : Store) : Option Bool := match y with
  | .str j => match x with
    | .str i => some (!(Builtin.Str.occurrences j i 0 j.length 1).isEmpty)
    | _ => none
  | .tup ds => match flatD x, flatDs ds with
    | some v, some vs => some (inV v vs)
    | _, _ => none
  | .loc l => match lstAt S l with
    | some ds => match toPy S x, toPy S (.loc l) with
      | some p, some (.list ps) => if SeqAt.shaped p = true ∧ SeqAt.shaped (.list ps) = true then some (ps.any fun z => PyData.eqv z p) else none
      | _, _ => none
    | none => none
  | _ => none
def dIn (x y : D) (S : Store) : Out D := match dInB x y S with
  | some b => .ok (.bl b) S
  | none => .bad
def dNotIn (x y : D) (S : Store) : Out D := match dInB x y S with
  | some b => .ok (.bl (!b)) S
  | none => .bad

section
variable {X : Cx} {K : PySem.W.Frag} {H : Hp} {ρ : List Addr} {S : Store}
theorem flatD_rv {d : D} {v x : V} (h : flatD d = some v) (r : RV K H ρ d x) : x = v ∧ flatV v = true := by
  cases d <;> simp only [flatD] at h <;> first
    | (cases h; simp only [RV] at r; subst r; exact ⟨rfl, rfl⟩)
    | cases h
theorem flatDs_rv : ∀ {ds : List D} {vs xs : List V}, flatDs ds = some vs → RVs K H ρ ds xs → xs = vs ∧ vs.all flatV = true
  | [], vs, xs, h, r => by simp [flatDs] at h; subst h; exact ⟨r.nil_inv, rfl⟩
  | d :: ds, vs, xs, h, r => by
    obtain ⟨x, t, rfl, r1, r2⟩ := r.cons_inv
    unfold flatDs at h
    split at h
    · rename_i y ys e1 e2
      cases h
      obtain ⟨rfl, f1⟩ := flatD_rv e1 r1
      obtain ⟨rfl, f2⟩ := flatDs_rv e2 r2
      refine ⟨rfl, ?_⟩
      rw [List.all_cons, f1, f2]; rfl
    · cases h
/-- a value without anything in the store -/
theorem aft_flat {d : D} {v : V} {S : Store} {Q : VK} (rs : RelS K H S ρ) (h : Aft K E0 H ρ (RV K) (.ok d S) Q) (r : RV K H ρ d v) : Q v H := h ρ H v rs .refl r
/-- a new tuple -/
theorem aft_tup {ds : List D} {xs : List V} {S : Store} {Q : VK} (rs : RelS K H S ρ) (h : Aft K E0 H ρ (RV K) (.ok (.tup ds) S) Q) (r : RVs K H ρ ds xs) {p : Addr} (hp : H p = none) : Q (.ref p) (upd H p (.tup xs)) := by
  refine h ρ _ _ (rs.upd_new hp) (Ext.upd_new hp) ?_
  simp only [RV]
  exact ⟨p, xs, rfl, .inl (.inl upd_same), r.mono (Ext.upd_new hp)⟩
/-- a new list -/
theorem aft_lst {E : XK} {ds : List D} {xs : List V} {S : Store} {Q : VK} (rs : RelS K H S ρ) (h : Aft K E H ρ (RV K) (newL ds S) Q) (r : RVs K H ρ ds xs) : xs.length ≤ sizeLine ∧ ∀ p, H p = none → Q (.ref p) (upd H p (.lst xs)) := by
  unfold newL at h
  split at h
  · rename_i hl
    refine ⟨by rw [r.length]; exact hl, fun p hp => ?_⟩
    refine h (ρ ++ [p]) _ _ (rs.push hp ⟨xs, upd_same, r.mono (Ext.push hp)⟩) (Ext.push hp) ?_
    simp only [RV]
    exact ⟨p, by rw [← rs.len]; simp, rfl⟩
  · exact h.elim
theorem rv_loc {l : Nat} {x : V} (r : RV K H ρ (.loc l) x) : ∃ a, ρ[l]? = some a ∧ x = .ref a := by simpa only [RV] using r
theorem rv_tup {ds : List D} {x : V} (r : RV K H ρ (.tup ds) x) : ∃ a xs, x = .ref a ∧ SqT K H a xs ∧ RVs K H ρ ds xs := by simpa only [RV] using r
theorem lst_of (rs : RelS K H S ρ) {l : Nat} {ds : List D} {a : Addr} (h : S[l]? = some (.lst ds)) (hl : ρ[l]? = some a) : ∃ xs, H a = some (.lst xs) ∧ RVs K H ρ ds xs := rs.obj l a _ hl h

theorem opr_add : OpR X (binaryOp .Add) (rD2 X.K dAdd) := by
  intro pins s σ H x y v u Q I rx ry ⟨dx, dy, S, ρ, rs, r1, r2, _, q⟩
  cases dx <;> cases dy <;> simp only [dAdd] at q <;> try exact q.elim
  · simp only [RV] at r1 r2; subst r1 r2
    exact op_add pins s σ H _ _ v u Q I rx ry ⟨_, _, rfl, rfl, aft_flat rs q (rv_int _)⟩
  · simp only [RV] at r1 r2; subst r1 r2
    split at q
    · rename_i hl
      exact op_add_str pins s σ H _ _ v u Q I rx ry ⟨_, _, rfl, rfl, hl, aft_flat rs q (rv_str _)⟩
    · exact q.elim
  · obtain ⟨a, ha, rfl⟩ := rv_loc r1
    obtain ⟨b, hb, rfl⟩ := rv_loc r2
    split at q
    · rename_i xs ys e1 e2
      obtain ⟨xv, h1, h2⟩ := lst_of rs e1 ha
      obtain ⟨yv, h3, h4⟩ := lst_of rs e2 hb
      obtain ⟨hz, k⟩ := aft_lst rs q (h2.append h4)
      exact op_cat pins s σ H _ _ v u Q I rx ry ⟨a, b, xv, yv, rfl, rfl, h1, h3, by rw [← List.length_append]; exact hz, k⟩
    · exact q.elim
  · obtain ⟨a, xv, rfl, h1, h2⟩ := rv_tup r1
    obtain ⟨b, yv, rfl, h3, h4⟩ := rv_tup r2
    split at q
    · rename_i hl
      refine op_catA pins s σ H _ _ v u Q I rx ry ⟨a, b, xv, yv, rfl, rfl, h1, h3, by rw [h2.length, h4.length]; exact hl, fun e => ?_, fun e e' => ?_, fun _ _ p hp => aft_tup rs q (h2.append h4) hp⟩
      · refine aft_flat rs q ?_
        simp only [RV]
        refine ⟨b, yv, rfl, h3, ?_⟩
        have := h2.append h4
        rw [e] at this
        simpa using this
      · refine aft_flat rs q ?_
        simp only [RV]
        refine ⟨a, xv, rfl, h1, ?_⟩
        have := h2.append h4
        rw [e'] at this
        simpa using this
    · exact q.elim
theorem opr_sub : OpR X (binaryOp .Sub) (rD2 X.K dSub) := by
  intro pins s σ H x y v u Q I rx ry ⟨dx, dy, S, ρ, rs, r1, r2, _, q⟩
  cases dx <;> cases dy <;> simp only [dSub] at q <;> try exact q.elim
  simp only [RV] at r1 r2; subst r1 r2
  exact op_sub pins s σ H _ _ v u Q I rx ry ⟨_, _, rfl, rfl, aft_flat rs q (rv_int _)⟩
theorem opr_mul : OpR X (binaryOp .Mult) (rD2 X.K dMul) := by
  intro pins s σ H x y v u Q I rx ry ⟨dx, dy, S, ρ, rs, r1, r2, _, q⟩
  cases dx <;> cases dy <;> simp only [dMul] at q <;> try exact q.elim
  simp only [RV] at r1 r2; subst r1 r2
  split at q
  · rename_i hl
    exact op_mul pins s σ H _ _ v u Q I rx ry ⟨_, _, rfl, rfl, hl, aft_flat rs q (rv_int _)⟩
  · exact q.elim
theorem opr_mod : OpR X (binaryOp .Mod) (rD2 X.K dMod) := by
  intro pins s σ H x y v u Q I rx ry ⟨dx, dy, S, ρ, rs, r1, r2, _, q⟩
  cases dx <;> cases dy <;> simp only [dMod] at q <;> try exact q.elim
  simp only [RV] at r1 r2; subst r1 r2
  split at q
  · rename_i hl
    exact op_mod pins s σ H _ _ v u Q I rx ry ⟨_, _, rfl, rfl, hl, aft_flat rs q (rv_int _)⟩
  · exact q.elim
theorem opr_div : OpR X (binaryOp .FloorDiv) (rD2 X.K dDiv) := by
  intro pins s σ H x y v u Q I rx ry ⟨dx, dy, S, ρ, rs, r1, r2, _, q⟩
  cases dx <;> cases dy <;> simp only [dDiv] at q <;> try exact q.elim
  simp only [RV] at r1 r2; subst r1 r2
  split at q
  · rename_i hl
    exact op_fdivW pins s σ H _ _ v u Q I rx ry ⟨_, _, rfl, rfl, hl, aft_flat rs q (rv_int _)⟩
  · exact q.elim
theorem opr_pow : OpR X (binaryOp .Pow) (rD2 X.K dPow) := by
  intro pins s σ H x y v u Q I rx ry ⟨dx, dy, S, ρ, rs, r1, r2, _, q⟩
  cases dx <;> cases dy <;> simp only [dPow] at q <;> try exact q.elim
  simp only [RV] at r1 r2; subst r1 r2
  split at q
  · rename_i hl
    exact op_pow pins s σ H _ _ v u Q I rx ry ⟨_, _, rfl, rfl, hl, aft_flat rs q (rv_int _)⟩
  · exact q.elim
theorem opr_lt : OpR X (compareOp .Lt) (rD2 X.K dLt) := by
  intro pins s σ H x y v u Q I rx ry ⟨dx, dy, S, ρ, rs, r1, r2, _, q⟩
  cases dx <;> cases dy <;> simp only [dLt] at q <;> try exact q.elim
  simp only [RV] at r1 r2; subst r1 r2
  exact op_lt pins s σ H _ _ v u Q I rx ry ⟨_, _, rfl, rfl, aft_flat rs q (rv_bl _)⟩
theorem opr_le : OpR X (compareOp .LtE) (rD2 X.K dLe) := by
  intro pins s σ H x y v u Q I rx ry ⟨dx, dy, S, ρ, rs, r1, r2, _, q⟩
  cases dx <;> cases dy <;> simp only [dLe] at q <;> try exact q.elim
  simp only [RV] at r1 r2; subst r1 r2
  exact op_le pins s σ H _ _ v u Q I rx ry ⟨_, _, rfl, rfl, aft_flat rs q (rv_bl _)⟩
theorem opr_gt : OpR X (compareOp .Gt) (rD2 X.K dGt) := by
  intro pins s σ H x y v u Q I rx ry ⟨dx, dy, S, ρ, rs, r1, r2, _, q⟩
  cases dx <;> cases dy <;> simp only [dGt] at q <;> try exact q.elim
  simp only [RV] at r1 r2; subst r1 r2
  exact op_gt pins s σ H _ _ v u Q I rx ry ⟨_, _, rfl, rfl, aft_flat rs q (rv_bl _)⟩
theorem opr_ge : OpR X (compareOp .GtE) (rD2 X.K dGe) := by
  intro pins s σ H x y v u Q I rx ry ⟨dx, dy, S, ρ, rs, r1, r2, _, q⟩
  cases dx <;> cases dy <;> simp only [dGe] at q <;> try exact q.elim
  simp only [RV] at r1 r2; subst r1 r2
  exact op_ge pins s σ H _ _ v u Q I rx ry ⟨_, _, rfl, rfl, aft_flat rs q (rv_bl _)⟩
theorem eqB_inv {x y : D} {S : Store} {b : Bool} (h : dEqB x y S = some b) : ∃ p q, toPy S x = some p ∧ toPy S y = some q ∧ SeqAt.shaped p = true ∧ SeqAt.shaped q = true ∧ PyData.eqv p q = b := by
  unfold dEqB at h
  split at h
  · rename_i p q e1 e2
    split at h
    · rename_i hs
      exact ⟨p, q, e1, e2, hs.1, hs.2, Option.some.inj h⟩
    · cases h
  · cases h
theorem opr_eq (hu : X.A.units + 64 < cLine) : OpR X (compareOp .Eq) (rD2 X.K dEq) := by
  intro pins s σ H x y v u Q I rx ry ⟨dx, dy, S, ρ, rs, r1, r2, _, q⟩
  unfold dEq at q
  split at q
  · rename_i b hb
    obtain ⟨p, p', e1, e2, s1, s2, rfl⟩ := eqB_inv hb
    exact op_eqD hu pins s σ H _ _ v u Q I rx ry ⟨p, p', toPy_dp rs e1 r1, toPy_dp rs e2 r2, s1, s2, aft_flat rs q (rv_bl _)⟩
  · exact q.elim
theorem opr_ne (hu : X.A.units + 64 < cLine) : OpR X (compareOp .NotEq) (rD2 X.K dNe) := by
  intro pins s σ H x y v u Q I rx ry ⟨dx, dy, S, ρ, rs, r1, r2, _, q⟩
  unfold dNe at q
  split at q
  · rename_i b hb
    obtain ⟨p, p', e1, e2, s1, s2, rfl⟩ := eqB_inv hb
    exact op_neD hu pins s σ H _ _ v u Q I rx ry ⟨p, p', toPy_dp rs e1 r1, toPy_dp rs e2 r2, s1, s2, aft_flat rs q (rv_bl _)⟩
  · exact q.elim
theorem rv_non_iff {d : D} {x : V} (r : RV K H ρ d x) : decide (x = .non) = (match d with | .non => true | _ => false) := by
  cases d <;> simp only [RV] at r
  case loc l => obtain ⟨a, _, rfl⟩ := r; rfl
  case tup ds => obtain ⟨a, xs, rfl, _⟩ := r; rfl
  all_goals (subst r; rfl)
theorem opr_isN : OpR X (compareOp .Is) (rD2 X.K dIsN) := by
  intro pins s σ H x y v u Q I rx ry ⟨dx, dy, S, ρ, rs, r1, r2, _, q⟩
  cases dy <;> simp only [dIsN] at q <;> try exact q.elim
  simp only [RV] at r2; subst r2
  refine op_isN pins s σ H _ _ v u Q I rx ry ⟨rfl, ?_⟩
  rw [rv_non_iff r1]
  cases dx <;> exact aft_flat rs q (rv_bl _)
theorem opr_isNot : OpR X (compareOp .IsNot) (rD2 X.K dIsNot) := by
  intro pins s σ H x y v u Q I rx ry ⟨dx, dy, S, ρ, rs, r1, r2, _, q⟩
  cases dy <;> simp only [dIsNot] at q <;> try exact q.elim
  simp only [RV] at r2; subst r2
  refine op_notN pins s σ H _ _ v u Q I rx ry ⟨rfl, ?_⟩
  rw [rv_non_iff r1]
  cases dx <;> exact aft_flat rs q (rv_bl _)
theorem opr_in (hu : X.A.units + 65 < cLine) : OpR X (compareOp .In) (rD2 X.K dIn) := by
  intro pins s σ H x y v u Q I rx ry ⟨dx, dy, S, ρ, rs, r1, r2, _, q⟩
  unfold dIn at q
  split at q
  · rename_i b hb
    unfold dInB at hb
    split at hb
    · split at hb
      · simp only [RV] at r1 r2; subst r1 r2
        cases hb
        exact op_in_str pins s σ H _ _ v u Q I rx ry ⟨_, _, rfl, rfl, aft_flat rs q (rv_bl _)⟩
      · cases hb
    · split at hb
      · rename_i fv fvs e1 e2
        cases hb
        obtain ⟨a, xv, rfl, h1, h2⟩ := rv_tup r2
        obtain ⟨rfl, f1⟩ := flatD_rv e1 r1
        obtain ⟨rfl, f2⟩ := flatDs_rv e2 h2
        exact op_in_seq pins s σ H _ _ v u Q I rx ry ⟨a, _, rfl, .inr h1, f1, f2, aft_flat rs q (rv_bl _)⟩
      · cases hb
    · split at hb
      · split at hb
        · rename_i e1 e2
          split at hb
          · rename_i hs
            cases hb
            exact op_inD hu pins s σ H _ _ v u Q I rx ry ⟨_, _, toPy_dp rs e1 r1, toPy_dp rs e2 r2, hs.1, hs.2, aft_flat rs q (rv_bl _)⟩
          · cases hb
        · cases hb
      · cases hb
    · cases hb
  · exact q.elim
theorem opr_notIn (hu : X.A.units + 65 < cLine) : OpR X (compareOp .NotIn) (rD2 X.K dNotIn) := by
  intro pins s σ H x y v u Q I rx ry ⟨dx, dy, S, ρ, rs, r1, r2, _, q⟩
  unfold dNotIn at q
  split at q
  · rename_i b hb
    unfold dInB at hb
    split at hb
    · split at hb
      · simp only [RV] at r1 r2; subst r1 r2
        cases hb
        exact op_notIn_str pins s σ H _ _ v u Q I rx ry ⟨_, _, rfl, rfl, aft_flat rs q (rv_bl _)⟩
      · cases hb
    · split at hb
      · rename_i fv fvs e1 e2
        cases hb
        obtain ⟨a, xv, rfl, h1, h2⟩ := rv_tup r2
        obtain ⟨rfl, f1⟩ := flatD_rv e1 r1
        obtain ⟨rfl, f2⟩ := flatDs_rv e2 h2
        exact op_notIn_seq pins s σ H _ _ v u Q I rx ry ⟨a, _, rfl, .inr h1, f1, f2, aft_flat rs q (rv_bl _)⟩
      · cases hb
    · split at hb
      · split at hb
        · rename_i e1 e2
          split at hb
          · rename_i hs
            cases hb
            exact op_notInD hu pins s σ H _ _ v u Q I rx ry ⟨_, _, toPy_dp rs e1 r1, toPy_dp rs e2 r2, hs.1, hs.2, aft_flat rs q (rv_bl _)⟩
          · cases hb
        · cases hb
      · cases hb
    · cases hb
  · exact q.elim
end
end Ev

/-! Ev2: expressions. -/
namespace Ev
open PySem PySem.Spec PyProof.Rows L2

abbrev EE (X : Cx) (W : WX) (e : Expr) (f : Ex) : Prop := PE X e (tEv X.K W f)
abbrev ET (X : Cx) (W : WX) (e : Expr) (f : Te) : Prop := PT X e (tTe X.K W f)
abbrev EW (X : Cx) (W : WX) (e : Expr) (f : Te) : Prop := PW X e (tTe X.K W f)
abbrev EA (X : Cx) (W : WX) (es : List Expr) (f : Ag) : Prop := PA X es (tAg X.K W f)

section
variable {X : Cx} {W : WX} {a b c e : Expr} {es : List Expr} {pos : Pos} {fa fb fc : Ex} {ta tb : Te} {ga : Ag} {k k' : D → D → Store → Out D}
/-- from one reading to the next -/
theorem tEv_then {f : Ex} {g : D → Store → Out α} {RA : Hp → List Addr → α → β → Prop} {σ : L2.St} {H : Hp} {en : Env} {S : Store} {ρ : List Addr} {Q : β → Hp → Prop} {P : VK}
    (rs : RelS X.K H S ρ) (re : RE X.K H ρ en σ) (q : Aft X.K (WE W σ) H ρ RA ((f en S).bind g) Q)
    (hk : ∀ x H1 v S1 ρ1, RelS X.K H1 S1 ρ1 → RE X.K H1 ρ1 en σ → Ext H H1 ρ ρ1 → RV X.K H1 ρ1 v x → Aft X.K (WE W σ) H1 ρ1 RA (g v S1) Q → P x H1) : tEv X.K W f σ H P :=
  ⟨en, S, ρ, rs, re, (Aft.split q).imp fun x H1 ⟨v, S1, ρ1, r1, x1, rv, q1⟩ => hk x H1 v S1 ρ1 r1 (re.mono x1) x1 rv q1⟩
theorem tTe_then {f : Te} {g : Bool → Store → Out α} {RA : Hp → List Addr → α → β → Prop} {σ : L2.St} {H : Hp} {en : Env} {S : Store} {ρ : List Addr} {Q : β → Hp → Prop} {P : Bool → Hp → Prop}
    (rs : RelS X.K H S ρ) (re : RE X.K H ρ en σ) (q : Aft X.K (WE W σ) H ρ RA ((f en S).bind g) Q)
    (hk : ∀ x H1 S1 ρ1, RelS X.K H1 S1 ρ1 → RE X.K H1 ρ1 en σ → Ext H H1 ρ ρ1 → Aft X.K (WE W σ) H1 ρ1 RA (g x S1) Q → P x H1) : tTe X.K W f σ H P :=
  ⟨en, S, ρ, rs, re, (Aft.split q).imp fun x H1 ⟨v, S1, ρ1, r1, x1, rv, q1⟩ => by
    have rv : v = x := rv
    subst rv
    exact hk v H1 S1 ρ1 r1 (re.mono x1) x1 q1⟩
theorem tAg_then {f : Ag} {g : List D → Store → Out α} {RA : Hp → List Addr → α → β → Prop} {σ : L2.St} {H : Hp} {en : Env} {S : Store} {ρ : List Addr} {Q : β → Hp → Prop} {P : List V → Hp → Prop}
    (rs : RelS X.K H S ρ) (re : RE X.K H ρ en σ) (q : Aft X.K (WE W σ) H ρ RA ((f en S).bind g) Q)
    (hk : ∀ x H1 v S1 ρ1, RelS X.K H1 S1 ρ1 → RE X.K H1 ρ1 en σ → Ext H H1 ρ ρ1 → RVs X.K H1 ρ1 v x → Aft X.K (WE W σ) H1 ρ1 RA (g v S1) Q → P x H1) : tAg X.K W f σ H P :=
  ⟨en, S, ρ, rs, re, (Aft.split q).imp fun x H1 ⟨v, S1, ρ1, r1, x1, rv, q1⟩ => hk x H1 v S1 ρ1 r1 (re.mono x1) x1 rv q1⟩
/-- an outcome without an exception meets any wish -/
theorem aft_noE {E : XK} {H : Hp} {ρ : List Addr} {α β : Type} {RA : Hp → List Addr → α → β → Prop} {o : Out α} {Q : β → Hp → Prop} {K : PySem.W.Frag} (hn : ∀ C fs S, o ≠ .exc C fs S) (h : Aft K E H ρ RA o Q) : Aft K E0 H ρ RA o Q := by
  cases o with
  | ok v S => exact h
  | exc C fs S => exact (hn C fs S rfl).elim
  | bad => exact h
theorem rd2_of {x y : V} {H : Hp} {Q : VK} {dx dy : D} {S : Store} {ρ : List Addr} {E : XK} (rs : RelS X.K H S ρ) (r1 : RV X.K H ρ dx x) (r2 : RV X.K H ρ dy y) (hn : noExc k) (q : Aft X.K E H ρ (RV X.K) (k dx dy S) Q) : rD2 X.K k x y H Q := by
  refine ⟨dx, dy, S, ρ, rs, r1, r2, ?_, aft_noE (fun C fs S' => hn _ _ _ _ _ _) q⟩
  cases hk : k dx dy S with
  | ok z S' => exact ⟨z, S', rfl⟩
  | exc C fs S' => exact (hn _ _ _ _ _ _ hk).elim
  | bad => rw [hk] at q; exact q.elim

theorem ev_bin {op : Operator} (ho : OpR X (binaryOp op) (rD2 X.K k)) (hn : noExc k) (ha : EE X W a fa) (hb : EE X W b fb) : EE X W (.BinOp a op b pos) (e2 fa fb k) :=
  ev_two (pe_op ho ha hb) rfl (fun _ _ _ _ h => h) hn
theorem ev_cmp {op : CmpOp} (ho : OpR X (compareOp op) (rD2 X.K k)) (hn : noExc k) (ha : EE X W a fa) (hb : EE X W b fb) (hm : behindInMarks op b = false) : EE X W (.Compare a [op] [b] pos) (e2 fa fb k) :=
  ev_two (pe_cmpR ho ha hb hm) rfl (fun _ _ _ _ h => h) hn
/-- a value that is True or False -/
def asB : D → Store → Out Bool
  | .bl b, S => .ok b S
  | _, _ => .bad
def eB (f : Ex) : Te := fun e S => (f e S).bind asB
theorem asB_aft {H : Hp} {ρ : List Addr} {d : D} {x : V} {S : Store} {E : XK} {Q : Bool → Hp → Prop} (rs : RelS X.K H S ρ) (r : RV X.K H ρ d x) (q : Aft X.K E H ρ RB' (asB d S) Q) : ∃ k, x = .bl k ∧ Q k H := by
  cases d <;> simp only [asB] at q <;> try exact q.elim
  simp only [RV] at r; subst r
  exact ⟨_, rfl, q ρ H _ rs .refl rfl⟩
theorem et_cmp {op : CmpOp} (ho : OpR X (compareOp op) (rD2 X.K k)) (hn : noExc k) (ha : EE X W a fa) (hb : EE X W b fb) (hm : behindInMarks op b = false) : ET X W (.Compare a [op] [b] pos) (eB (e2 fa fb k)) := by
  refine PT.by (pt_cmpR ho ha hb hm) fun σ H Q ⟨en, S, ρ, rs, re, q⟩ => ?_
  unfold eB e2 at q
  rw [Out.bind_assoc] at q
  refine tEv_then (g := fun va S1 => ((fb en S1).bind fun vb S2 => k va vb S2).bind asB) rs re q fun x H1 va S1 ρ1 r1 e1 x1 rv1 q1 => ?_
  rw [Out.bind_assoc] at q1
  refine tEv_then (g := fun vb S2 => (k va vb S2).bind asB) r1 e1 q1 fun y H2 vb S2 ρ2 r2 e2 x2 rv2 q2 => ?_
  refine rd2_of (E := WE W σ) r2 (rv1.mono x2) rv2 hn ?_
  exact (Aft.split q2).imp fun z H3 ⟨d, S3, ρ3, r3, x3, rv3, q3⟩ => asB_aft r3 rv3 q3
/-- a op b op' c -/
def eChain (fa fb fc : Ex) (k k' : D → D → Store → Out D) : Ex := fun e S => (fa e S).bind fun x S1 => (fb e S1).bind fun y S2 => (k x y S2).bind fun r S3 => (asB r S3).bind fun t S3 => if t = true then (fc e S3).bind fun z S4 => k' y z S4 else .ok (.bl false) S3
theorem ev_chain {op op' : CmpOp} (ho : OpR X (compareOp op) (rD2 X.K k)) (hn : noExc k) (ho' : OpR X (compareOp op') (rD2 X.K k')) (hn' : noExc k') (ha : EE X W a fa) (hb : EE X W b fb) (hc : EE X W c fc)
    (hm : lastMarks [op, op'] [b, c] = false := by with_unfolding_all rfl) : EE X W (.Compare a [op, op'] [b, c] pos) (eChain fa fb fc k k') := by
  refine PE.by (pe_chain ho ho' ha hb hc hm) fun σ H Q ⟨en, S, ρ, rs, re, q⟩ => ?_
  unfold eChain at q
  refine tEv_then rs re q fun x H1 va S1 ρ1 r1 e1 x1 rv1 q1 => ?_
  refine tEv_then r1 e1 q1 fun y H2 vb S2 ρ2 r2 e2 x2 rv2 q2 => ?_
  refine rd2_of (E := WE W σ) r2 (rv1.mono x2) rv2 hn ?_
  refine (Aft.split q2).imp fun z H3 ⟨d, S3, ρ3, r3, x3, rv3, q3⟩ => ?_
  obtain ⟨t, rfl, q4⟩ := asB_aft r3 rv3 (Aft.split (RA := RB') q3)
  obtain ⟨t', S4, ρ4, r4, x4, rt, q5⟩ := q4
  have rt : t' = t := rt
  subst rt
  refine ⟨t', rfl, ?_⟩
  by_cases ht : t' = true
  · rw [if_pos ht] at q5 ⊢
    refine tEv_then r4 ((e2.mono x3).mono x4) q5 fun w H5 vc S5 ρ5 r5 e5 x5 rv5 q6 => ?_
    exact rd2_of r5 (((rv2.mono x3).mono x4).mono x5) rv5 hn' q6
  · rw [if_neg ht] at q5 ⊢
    exact q5 ρ4 H3 _ r4 .refl (rv_bl _)
theorem et_chain {op op' : CmpOp} (ho : OpR X (compareOp op) (rD2 X.K k)) (hn : noExc k) (ho' : OpR X (compareOp op') (rD2 X.K k')) (hn' : noExc k') (ha : EE X W a fa) (hb : EE X W b fb) (hc : EE X W c fc)
    (hm : lastMarks [op, op'] [b, c] = false := by with_unfolding_all rfl) : ET X W (.Compare a [op, op'] [b, c] pos) (eB (eChain fa fb fc k k')) := by
  refine PT.by (pt_chain ho ho' ha hb hc hm) fun σ H Q ⟨en, S, ρ, rs, re, q⟩ => ?_
  unfold eB at q
  have key : ∀ Q' : VK, Aft X.K (WE W σ) H ρ (RV X.K) (eChain fa fb fc k k' en S) Q' → tChain (rD2 X.K k) (rD2 X.K k') (tEv X.K W fa) (tEv X.K W fb) (tEv X.K W fc) σ H Q' := by
    intro Q' q
    unfold eChain at q
    refine tEv_then rs re q fun x H1 va S1 ρ1 r1 e1 x1 rv1 q1 => ?_
    refine tEv_then r1 e1 q1 fun y H2 vb S2 ρ2 r2 e2 x2 rv2 q2 => ?_
    refine rd2_of (E := WE W σ) r2 (rv1.mono x2) rv2 hn ?_
    refine (Aft.split q2).imp fun z H3 ⟨d, S3, ρ3, r3, x3, rv3, q3⟩ => ?_
    obtain ⟨t, rfl, q4⟩ := asB_aft r3 rv3 (Aft.split (RA := RB') q3)
    obtain ⟨t', S4, ρ4, r4, x4, rt, q5⟩ := q4
    have rt : t' = t := rt
    subst rt
    refine ⟨t', rfl, ?_⟩
    by_cases ht : t' = true
    · rw [if_pos ht] at q5 ⊢
      refine tEv_then r4 ((e2.mono x3).mono x4) q5 fun w H5 vc S5 ρ5 r5 e5 x5 rv5 q6 => ?_
      exact rd2_of r5 (((rv2.mono x3).mono x4).mono x5) rv5 hn' q6
    · rw [if_neg ht] at q5 ⊢
      exact q5 ρ4 H3 _ r4 .refl (rv_bl _)
  exact key _ ((Aft.split q).imp fun z H3 ⟨d, S3, ρ3, r3, x3, rv3, q3⟩ => asB_aft r3 rv3 q3)

/-! tests -/
def eNot (t : Te) : Te := fun e S => (t e S).bind fun b S => .ok (!b) S
def eAnd (t u : Te) : Te := fun e S => (t e S).bind fun b S1 => if b = true then u e S1 else .ok false S1
def eOr (t u : Te) : Te := fun e S => (t e S).bind fun b S1 => if b = true then .ok true S1 else u e S1
theorem et_not (ha : ET X W a ta) : ET X W (.UnaryOp .Not a pos) (eNot ta) := by
  refine PT.by (pt_not ha) fun σ H Q ⟨en, S, ρ, rs, re, q⟩ => ?_
  exact tTe_then (g := fun b S => .ok (!b) S) rs re q fun x H1 S1 ρ1 r1 e1 x1 q1 => q1 ρ1 H1 _ r1 .refl rfl
theorem ew_and1 (ha : ET X W a ta) : EW X W (.BoolOp .And [a] pos) ta := pw_and1 ha
theorem ew_or1 (ha : ET X W a ta) : EW X W (.BoolOp .Or [a] pos) ta := pw_or1 ha
theorem ew_and (ha : ET X W a ta) (hb : EW X W (.BoolOp .And (b :: es) pos) tb) : EW X W (.BoolOp .And (a :: b :: es) pos) (eAnd ta tb) := by
  refine PW.by (pw_and ha hb) fun σ H Q ⟨en, S, ρ, rs, re, q⟩ => ?_
  refine tTe_then (g := fun b S1 => if b = true then tb en S1 else .ok false S1) rs re q fun x H1 S1 ρ1 r1 e1 x1 q1 => ?_
  by_cases ht : x = true
  · rw [if_pos ht] at q1 ⊢
    exact ⟨en, S1, ρ1, r1, e1, q1⟩
  · rw [if_neg ht] at q1 ⊢
    exact q1 ρ1 H1 _ r1 .refl rfl
theorem ew_or (ha : ET X W a ta) (hb : EW X W (.BoolOp .Or (b :: es) pos) tb) : EW X W (.BoolOp .Or (a :: b :: es) pos) (eOr ta tb) := by
  refine PW.by (pw_or ha hb) fun σ H Q ⟨en, S, ρ, rs, re, q⟩ => ?_
  refine tTe_then (g := fun b S1 => if b = true then .ok true S1 else tb en S1) rs re q fun x H1 S1 ρ1 r1 e1 x1 q1 => ?_
  by_cases ht : x = true
  · rw [if_pos ht] at q1 ⊢
    exact q1 ρ1 H1 _ r1 .refl rfl
  · rw [if_neg ht] at q1 ⊢
    exact ⟨en, S1, ρ1, r1, e1, q1⟩
theorem EW.et {t : Te} (h : EW X W e t) : ET X W e t := h.pt
/-- truth of a value -/
def dTru (d : D) (S : Store) : Out Bool := match d with
  | .non => .ok false S
  | .bl b => .ok b S
  | .int i => .ok (i != 0) S
  | .str z => if z.length ≤ sizeLine then .ok ((z.length : Int) != 0) S else .bad
  | .tup ds => .ok (!ds.isEmpty) S
  | .loc l => match lstAt S l with
    | some ds => .ok (!ds.isEmpty) S
    | none => .bad
  | _ => .bad
theorem isEmpty_rvs {K : PySem.W.Frag} {H : Hp} {ρ : List Addr} {ds : List D} {xs : List V} (r : RVs K H ρ ds xs) : xs.isEmpty = ds.isEmpty := by
  have := r.length
  cases xs <;> cases ds <;> simp at this <;> rfl
theorem et_truth {f : Ex} (ha : EE X W a f) (he : ∀ whole, isTrue a X.env whole = (do let v ← whole; standAt a.pos; holding [v] (truthy v)) := by intro _; rfl) : ET X W a (fun e S => (f e S).bind dTru) := by
  refine PT.by (pt_truth ha he) fun σ H Q ⟨en, S, ρ, rs, re, q⟩ => ?_
  refine tEv_then (g := fun d S => dTru d S) rs re q fun x H1 d S1 ρ1 r1 e1 x1 rv q1 => ?_
  cases d <;> simp only [dTru] at q1 <;> try exact q1.elim
  · simp only [RV] at rv; subst rv; exact ⟨_, rfl, q1 ρ1 H1 _ r1 .refl rfl⟩
  · simp only [RV] at rv; subst rv; exact ⟨_, rfl, q1 ρ1 H1 _ r1 .refl rfl⟩
  · simp only [RV] at rv; subst rv; exact ⟨_, rfl, q1 ρ1 H1 _ r1 .refl rfl⟩
  · simp only [RV] at rv; subst rv
    split at q1
    · rename_i hl
      exact ⟨_, ⟨hl, rfl⟩, q1 ρ1 H1 _ r1 .refl rfl⟩
    · exact q1.elim
  · obtain ⟨p, hp, rfl⟩ := rv_loc rv
    split at q1
    · rename_i ds hd
      obtain ⟨xs, h1, h2⟩ := lstAt_seq r1 hp hd
      exact ⟨_, .inl ⟨xs, h1, rfl⟩, q1 ρ1 H1 _ r1 .refl (by rw [isEmpty_rvs h2])⟩
    · exact q1.elim
  · obtain ⟨p, xs, rfl, h1, h2⟩ := rv_tup rv
    exact ⟨_, .inr (.inl ⟨xs, h1, rfl⟩), q1 ρ1 H1 _ r1 .refl (by rw [isEmpty_rvs h2])⟩
/-- a test's value: and, or, not of True and False -/
def eOf (t : Te) : Ex := fun e S => (t e S).bind fun b S => .ok (.bl b) S
def eAndV (f g : Ex) : Ex := fun e S => (f e S).bind fun d S1 => (asB d S1).bind fun b S1 => if b = true then g e S1 else .ok (.bl false) S1
def eOrV (f g : Ex) : Ex := fun e S => (f e S).bind fun d S1 => (asB d S1).bind fun b S1 => if b = true then .ok (.bl true) S1 else g e S1
def eNotV (f : Ex) : Ex := fun e S => (f e S).bind fun d S1 => (asB d S1).bind fun b S1 => .ok (.bl (!b)) S1
theorem ev_one {op} (h : EE X W a fa) : EE X W (.BoolOp op [a] pos) fa := pe_one h
theorem ev_and (ha : EE X W a fa) (hb : EE X W (.BoolOp .And (b :: es) pos) fb) : EE X W (.BoolOp .And (a :: b :: es) pos) (eAndV fa fb) := by
  refine PE.by (pe_and ha hb) fun σ H Q ⟨en, S, ρ, rs, re, q⟩ => ?_
  refine tEv_then (g := fun d S1 => (asB d S1).bind fun b S1 => if b = true then fb en S1 else .ok (.bl false) S1) rs re q fun x H1 d S1 ρ1 r1 e1 x1 rv q1 => ?_
  obtain ⟨t, rfl, t', S4, ρ4, r4, x4, rt, q5⟩ := asB_aft r1 rv (Aft.split (RA := RB') q1)
  have rt : t' = t := rt
  subst rt
  refine ⟨t', rfl, ?_⟩
  by_cases ht : t' = true
  · rw [if_pos ht] at q5 ⊢
    exact ⟨en, S4, ρ4, r4, e1.mono x4, q5⟩
  · rw [if_neg ht] at q5 ⊢
    exact q5 ρ4 H1 _ r4 .refl (rv_bl _)
theorem ev_or (ha : EE X W a fa) (hb : EE X W (.BoolOp .Or (b :: es) pos) fb) : EE X W (.BoolOp .Or (a :: b :: es) pos) (eOrV fa fb) := by
  refine PE.by (pe_or ha hb) fun σ H Q ⟨en, S, ρ, rs, re, q⟩ => ?_
  refine tEv_then (g := fun d S1 => (asB d S1).bind fun b S1 => if b = true then .ok (.bl true) S1 else fb en S1) rs re q fun x H1 d S1 ρ1 r1 e1 x1 rv q1 => ?_
  obtain ⟨t, rfl, t', S4, ρ4, r4, x4, rt, q5⟩ := asB_aft r1 rv (Aft.split (RA := RB') q1)
  have rt : t' = t := rt
  subst rt
  refine ⟨t', rfl, ?_⟩
  by_cases ht : t' = true
  · rw [if_pos ht] at q5 ⊢
    exact q5 ρ4 H1 _ r4 .refl (rv_bl _)
  · rw [if_neg ht] at q5 ⊢
    exact ⟨en, S4, ρ4, r4, e1.mono x4, q5⟩
theorem ev_not (ha : EE X W a fa) : EE X W (.UnaryOp .Not a pos) (eNotV fa) := by
  refine PE.by (pe_not ha) fun σ H Q ⟨en, S, ρ, rs, re, q⟩ => ?_
  refine tEv_then (g := fun d S1 => (asB d S1).bind fun b S1 => Out.ok (D.bl (!b)) S1) rs re q fun x H1 d S1 ρ1 r1 e1 x1 rv q1 => ?_
  obtain ⟨t, rfl, t', S4, ρ4, r4, x4, rt, q5⟩ := asB_aft r1 rv (Aft.split (RA := RB') q1)
  have rt : t' = t := rt
  subst rt
  exact ⟨t', rfl, q5 ρ4 H1 _ r4 .refl (rv_bl _)⟩
def eIf (t : Te) (f g : Ex) : Ex := fun e S => (t e S).bind fun b S1 => if b = true then f e S1 else g e S1
theorem ev_if (hc : ET X W c ta) (ha : EE X W a fa) (hb : EE X W b fb) : EE X W (.IfExp c a b pos) (eIf ta fa fb) := by
  refine PE.by (pe_ifExp hc ha hb) fun σ H Q ⟨en, S, ρ, rs, re, q⟩ => ?_
  refine tTe_then (g := fun b S1 => if b = true then fa en S1 else fb en S1) rs re q fun x H1 S1 ρ1 r1 e1 x1 q1 => ?_
  by_cases ht : x = true
  · rw [if_pos ht] at q1 ⊢
    exact ⟨en, S1, ρ1, r1, e1, q1⟩
  · rw [if_neg ht] at q1 ⊢
    exact ⟨en, S1, ρ1, r1, e1, q1⟩
def eNeg (f : Ex) : Ex := fun e S => (f e S).bind fun d S1 => match d with
  | .int i => .ok (.int (-i)) S1
  | _ => .bad
theorem ev_neg (ha : EE X W a fa) : EE X W (.UnaryOp .USub a pos) (eNeg fa) := by
  refine PE.by (pe_un un_neg ha) fun σ H Q ⟨en, S, ρ, rs, re, q⟩ => ?_
  refine tEv_then (g := fun d S1 => match d with | .int i => Out.ok (D.int (-i)) S1 | _ => .bad) rs re q fun x H1 d S1 ρ1 r1 e1 x1 rv q1 => ?_
  cases d <;> first | exact q1.elim | skip
  simp only [RV] at rv; subst rv
  exact ⟨_, rfl, q1 ρ1 H1 _ r1 .refl (rv_int _)⟩

/-! arguments, displays -/
def aNil : Ag := fun _ S => .ok [] S
def aCons (f : Ex) (g : Ag) : Ag := fun e S => (f e S).bind fun d S1 => (g e S1).bind fun ds S2 => .ok (d :: ds) S2
theorem ea_nil : EA X W [] aNil := by
  refine PA.by pa_nil fun σ H Q ⟨en, S, ρ, rs, re, q⟩ => ?_
  exact q ρ H [] rs .refl RVs.nil
theorem ea_cons (ha : EE X W e fa) (hr : EA X W es ga) (hs : starEach (e :: es) X.env = (false, eval e X.env) :: starEach es X.env := by rfl) : EA X W (e :: es) (aCons fa ga) := by
  refine PA.by (pa_cons ha hr hs) fun σ H Q ⟨en, S, ρ, rs, re, q⟩ => ?_
  refine tEv_then (g := fun d S1 => (ga en S1).bind fun ds S2 => .ok (d :: ds) S2) rs re q fun x H1 d S1 ρ1 r1 e1 x1 rv q1 => ?_
  refine tAg_then (g := fun ds S2 => .ok (d :: ds) S2) r1 e1 q1 fun xs H2 ds S2 ρ2 r2 e2 x2 rv2 q2 => ?_
  exact q2 ρ2 H2 _ r2 .refl (RVs.cons (rv.mono x2) rv2)
def eTup (g : Ag) : Ex := fun e S => (g e S).bind fun ds S1 => if ds.length ≤ sizeLine then .ok (.tup ds) S1 else .bad
def eLst (g : Ag) : Ex := fun e S => (g e S).bind newL
theorem ev_tup {k1} (h : EA X W es ga) : EE X W (.Tuple es k1 pos) (eTup ga) := by
  refine PE.by (pe_tup h) fun σ H Q ⟨en, S, ρ, rs, re, q⟩ => ?_
  refine tAg_then (g := fun ds S1 => if ds.length ≤ sizeLine then Out.ok (D.tup ds) S1 else .bad) rs re q fun xs H1 ds S1 ρ1 r1 e1 x1 rv q1 => ?_
  split at q1
  · rename_i hl
    exact ⟨by rw [rv.length]; exact hl, fun p hp => aft_tup r1 q1 rv hp⟩
  · exact q1.elim
theorem ev_lst (h : EA X W es ga) : EE X W (.List es pos) (eLst ga) := by
  refine PE.by (pe_lst h) fun σ H Q ⟨en, S, ρ, rs, re, q⟩ => ?_
  refine tAg_then (g := fun ds S1 => newL ds S1) rs re q fun xs H1 ds S1 ρ1 r1 e1 x1 rv q1 => ?_
  exact aft_lst r1 q1 rv

/-! subscripts -/
def dIx : D → D → Store → Out D
  | .loc l, .int i, S => match lstAt S l with
    | some ds => match atI ds i with
      | some d => .ok d S
      | none => .bad
    | none => .bad
  | .tup ds, .int i, S => match atI ds i with
    | some d => .ok d S
    | none => .bad
  | .str z, .int i, S => if z.length ≤ sizeLine then match atI z.cps.toList i with
    | some c => .ok (.str ⟨#[c]⟩) S
    | none => .bad
    else .bad
  | _, _, _ => .bad
theorem atI_rvs {K : PySem.W.Frag} {H : Hp} {ρ : List Addr} {ds : List D} {xs : List V} {i : Int} {d : D} (r : RVs K H ρ ds xs) (h : atI ds i = some d) : ∃ x, atI xs i = some x ∧ RV K H ρ d x := by
  unfold atI at h ⊢
  rw [r.length]
  cases hj : ixN ds.length i with
  | none => rw [hj] at h; cases h
  | some j =>
    rw [hj] at h
    exact r.get h
theorem ixr : IxR X (rD2 X.K dIx) := by
  intro vl sl pins s σ H x y v u Q I rx ry ⟨dx, dy, S, ρ, rs, r1, r2, _, q⟩ hs
  cases dx <;> cases dy <;> simp only [dIx] at q <;> try exact q.elim
  · simp only [RV] at r1 r2; subst r1 r2
    split at q
    · rename_i hl
      split at q
      · rename_i c hc
        exact ix_str vl sl pins s σ H _ _ v u Q I rx ry ⟨_, _, c, rfl, rfl, hl, hc, aft_flat rs q (rv_str _)⟩ hs
      · exact q.elim
    · exact q.elim
  · obtain ⟨p, hp, rfl⟩ := rv_loc r1
    simp only [RV] at r2; subst r2
    split at q
    · rename_i ds hd
      obtain ⟨xs, h1, h2⟩ := lstAt_seq rs hp hd
      split at q
      · rename_i d hi
        obtain ⟨z, h3, h4⟩ := atI_rvs h2 hi
        exact ix_list vl sl pins s σ H _ _ v u Q I rx ry ⟨p, xs, _, z, rfl, rfl, h1, h3, aft_flat rs q h4⟩ hs
      · exact q.elim
    · exact q.elim
  · obtain ⟨p, xs, rfl, h1, h2⟩ := rv_tup r1
    simp only [RV] at r2; subst r2
    split at q
    · rename_i d hi
      obtain ⟨z, h3, h4⟩ := atI_rvs h2 hi
      exact ix_tup vl sl pins s σ H _ _ v u Q I rx ry ⟨p, xs, _, z, rfl, rfl, h1, h3, aft_flat rs q h4⟩ hs
    · exact q.elim
theorem nx_ix : noExc dIx := by
  intro x y S C fs S' h
  cases x <;> cases y <;> simp only [dIx] at h <;> (repeat' split at h) <;> cases h
theorem ev_ix (ha : EE X W a fa) (hb : EE X W b fb) (hs : PlainIx b) : EE X W (.Subscript a b pos) (e2 fa fb dIx) := ev_two (pe_ix ixr ha hb hs) rfl (fun _ _ _ _ h => h) nx_ix
end
theorem nx_add : noExc dAdd := by
  intro x y S C fs S' h
  cases x <;> cases y <;> simp only [dAdd, newL] at h <;> (repeat' split at h) <;> cases h
theorem nx_sub : noExc dSub := by
  intro x y S C fs S' h
  cases x <;> cases y <;> simp only [dSub] at h <;> cases h
theorem nx_mul : noExc dMul := by
  intro x y S C fs S' h
  cases x <;> cases y <;> simp only [dMul] at h <;> (repeat' split at h) <;> cases h
theorem nx_mod : noExc dMod := by
  intro x y S C fs S' h
  cases x <;> cases y <;> simp only [dMod] at h <;> (repeat' split at h) <;> cases h
theorem nx_div : noExc dDiv := by
  intro x y S C fs S' h
  cases x <;> cases y <;> simp only [dDiv] at h <;> (repeat' split at h) <;> cases h
theorem nx_pow : noExc dPow := by
  intro x y S C fs S' h
  cases x <;> cases y <;> simp only [dPow] at h <;> (repeat' split at h) <;> cases h
theorem nx_lt : noExc dLt := by
  intro x y S C fs S' h
  cases x <;> cases y <;> simp only [dLt] at h <;> cases h
theorem nx_le : noExc dLe := by
  intro x y S C fs S' h
  cases x <;> cases y <;> simp only [dLe] at h <;> cases h
theorem nx_gt : noExc dGt := by
  intro x y S C fs S' h
  cases x <;> cases y <;> simp only [dGt] at h <;> cases h
theorem nx_ge : noExc dGe := by
  intro x y S C fs S' h
  cases x <;> cases y <;> simp only [dGe] at h <;> cases h
theorem nx_eq : noExc dEq := by
  intro x y S C fs S' h
  unfold dEq at h; split at h <;> cases h
theorem nx_ne : noExc dNe := by
  intro x y S C fs S' h
  unfold dNe at h; split at h <;> cases h
theorem nx_in : noExc dIn := by
  intro x y S C fs S' h
  unfold dIn at h; split at h <;> cases h
theorem nx_notIn : noExc dNotIn := by
  intro x y S C fs S' h
  unfold dNotIn at h; split at h <;> cases h
theorem nx_isN : noExc dIsN := by
  intro x y S C fs S' h
  unfold dIsN at h; split at h <;> cases h
theorem nx_isNot : noExc dIsNot := by
  intro x y S C fs S' h
  unfold dIsNot at h; split at h <;> cases h
end Ev

/-! Ev3: slices, calls of built-ins, statements, targets. -/
namespace Ev
open PySem PySem.Spec PyProof.Rows L2

/-! slices -/
def cutL {α : Type} (xs : List α) (lo hi : Option Int) : List α := (xs.drop (HT.sIx xs.length 0 lo)).take (HT.sIx xs.length xs.length hi - HT.sIx xs.length 0 lo)
def dSl (d : D) (lo hi : Option Int) (S : Store) : Out D := match d with
  | .loc l => match lstAt S l with
    | some ds => newL (cutL ds lo hi) S
    | none => .bad
  | .tup ds => .ok (.tup (cutL ds lo hi)) S
  | .str z => if z.length ≤ sizeLine then .ok (.str (cutS z lo hi)) S else .bad
  | _ => .bad
def asI : D → Store → Out Int
  | .int i, S => .ok i S
  | _, _ => .bad
/-- a part of a slice -/
def eP : Option Ex → Env → Store → Out (Option Int)
  | none => fun _ S => .ok none S
  | some f => fun e S => (f e S).bind fun d S1 => (asI d S1).bind fun i S1 => .ok (some i) S1
def eSl (f : Ex) (lo hi : Option Ex) : Ex := fun e S => (f e S).bind fun d S1 => (eP lo e S1).bind fun l S2 => (eP hi e S2).bind fun h S3 => dSl d l h S3
section
variable {X : Cx} {W : WX} {a b c e : Expr} {es : List Expr} {pos p2 : Pos} {fa fb fc : Ex} {ta tb : Te} {ga : Ag}
def tP (K : PySem.W.Frag) (W : WX) (p : Env → Store → Out (Option Int)) : TO := fun σ H Q => ∃ e S ρ, RelS K H S ρ ∧ RE K H ρ e σ ∧ Aft K (WE W σ) H ρ (fun _ _ a b => a = b) (p e S) Q
abbrev EP' (X : Cx) (W : WX) (o : Option Expr) (p : Option Ex) : Prop := PO X o (tP X.K W (eP p))
theorem PO.by {o : Option Expr} {t t' : TO} (h : PO X o t) (k : ∀ σ H Q, t' σ H Q → t σ H Q) : PO X o t' := ⟨fun pins s σ H Q I q => h.run pins s σ H Q I (k σ H Q q)⟩
theorem ep_none : EP' X W none none := PO.by po_none fun σ H Q ⟨en, S, ρ, rs, re, q⟩ => q ρ H none rs .refl rfl
theorem ep_some (h : EE X W e fa) : EP' X W (some e) (some fa) := PO.by (po_some h) fun σ H Q ⟨en, S, ρ, rs, re, q⟩ => by
  refine tEv_then (g := fun d S1 => (asI d S1).bind fun i S1 => .ok (some i) S1) rs re q fun x H1 d S1 ρ1 r1 e1 x1 rv q1 => ?_
  cases d <;> first | exact q1.elim | skip
  simp only [RV] at rv; subst rv
  exact ⟨_, rfl, q1 ρ1 H1 _ r1 .refl rfl⟩
theorem cut_rvs {K : PySem.W.Frag} {H : Hp} {ρ : List Addr} {ds : List D} {xs : List V} (r : RVs K H ρ ds xs) (lo hi : Option Int) : RVs K H ρ (cutL ds lo hi) (cutV xs lo hi) := by
  unfold cutL cutV
  rw [r.length]
  exact (r.drop _).take _
theorem cutV_all {xs : List V} {lo hi : Option Int} (h : HT.sIx xs.length 0 lo = 0 ∧ HT.sIx xs.length xs.length hi = xs.length) : cutV xs lo hi = xs := by
  unfold cutV
  rw [h.1, h.2]; simp
def rSlD (K : PySem.W.Frag) : V → Option Int → Option Int → Hp → VK → Prop := fun x lo hi H Q => ∃ d S ρ, RelS K H S ρ ∧ RV K H ρ d x ∧ Aft K E0 H ρ (RV K) (dSl d lo hi S) Q
theorem slr : SlR X (rSlD X.K) := by
  intro pins s σ H x v vl vu lo hi sl Q I rx hs pl pu ⟨d, S, ρ, rs, rv, q⟩
  cases d <;> simp only [dSl] at q <;> try exact q.elim
  · simp only [RV] at rv; subst rv
    split at q
    · rename_i hl
      exact sl_str pins s σ H _ v vl vu lo hi sl Q I rx hs pl pu ⟨_, rfl, hl, aft_flat rs q (rv_str _)⟩
    · exact q.elim
  · obtain ⟨p, hp, rfl⟩ := rv_loc rv
    split at q
    · rename_i ds hd
      obtain ⟨xs, h1, h2⟩ := lstAt_seq rs hp hd
      exact sl_list pins s σ H _ v vl vu lo hi sl Q I rx hs pl pu ⟨p, xs, rfl, h1, (aft_lst rs q (cut_rvs h2 lo hi)).2⟩
    · exact q.elim
  · obtain ⟨p, xs, rfl, h1, h2⟩ := rv_tup rv
    refine sl_tupA pins s σ H _ v vl vu lo hi sl Q I rx hs pl pu ⟨p, xs, rfl, h1, fun hw => ?_, fun _ p' hp' => aft_tup rs q (cut_rvs h2 lo hi) hp'⟩
    refine aft_flat rs q ?_
    simp only [RV]
    refine ⟨p, xs, rfl, h1, ?_⟩
    have := cut_rvs h2 lo hi
    rw [cutV_all hw] at this
    exact this
theorem ev_slice {lo hi : Option Expr} {fl fh : Option Ex} (he : EE X W e fa) (hl : EP' X W lo fl) (hh : EP' X W hi fh) : EE X W (.Subscript e (.Slice lo hi none p2) pos) (eSl fa fl fh) := by
  refine PE.by (pe_slice slr he hl hh) fun σ H Q ⟨en, S, ρ, rs, re, q⟩ => ?_
  refine tEv_then (g := fun d S1 => (eP fl en S1).bind fun l S2 => (eP fh en S2).bind fun h S3 => dSl d l h S3) rs re q fun x H1 d S1 ρ1 r1 e1 x1 rv q1 => ?_
  refine ⟨en, S1, ρ1, r1, e1, (Aft.split q1).imp fun l H2 ⟨l', S2, ρ2, r2, x2, el, q2⟩ => ?_⟩
  have el : l' = l := el
  subst el
  refine ⟨en, S2, ρ2, r2, e1.mono x2, (Aft.split q2).imp fun h H3 ⟨h', S3, ρ3, r3, x3, eh, q3⟩ => ?_⟩
  have eh : h' = h := eh
  subst eh
  refine ⟨d, S3, ρ3, r3, (rv.mono x2).mono x3, aft_noE (fun C fs S' hx => ?_) q3⟩
  cases d <;> simp only [dSl, newL] at hx <;> (repeat' split at hx) <;> cases hx

/-! calls of built-ins -/
abbrev Bk := List D → Store → Out D
def eCall (g : Ag) (k : Bk) : Ex := fun e S => (g e S).bind k
def rCD (K : PySem.W.Frag) (k : Bk) : List V → Hp → VK → Prop := fun xs H Q => ∃ ds S ρ, RelS K H S ρ ∧ RVs K H ρ ds xs ∧ Aft K E0 H ρ (RV K) (k ds S) Q
def noExc1 (k : Bk) : Prop := ∀ ds S C fs S', k ds S ≠ .exc C fs S'
variable {x : Str} {p : Pos} {id T : String} {k : Bk}
theorem ev_callB (hc : CallR X (.builtin id) (rCD X.K k)) (hn : noExc1 k) (hg : Gl X x) (hm : X.mg x = none) (hv : bootBuiltins x = some (.builtin id)) (ha : EA X W (e :: es) ga) (hnn : x ≠ "__name__" := by decide) (hdb : (x == ("__debug__" : Str)) = false := by decide)
    (he : starEach (e :: es) X.env = (false, eval e X.env) :: starEach es X.env := by rfl) (hpl : (backTo pos (starEach es X.env)).any (·.1) = false := by rfl) : EE X W (.Call (.Name x p) (e :: es) [] pos) (eCall ga k) := by
  refine PE.by (pe_callB hc hg hm hv ha hnn hdb he hpl) fun σ H Q ⟨en, S, ρ, rs, re, q⟩ => ?_
  exact tAg_then (g := k) rs re q fun xs H1 ds S1 ρ1 r1 e1 x1 rv q1 => ⟨ds, S1, ρ1, r1, rv, aft_noE (fun _ _ _ => hn _ _ _ _ _) q1⟩
theorem ev_callTy (hc : CallR X (.type T) (rCD X.K k)) (hn : noExc1 k) (hg : Gl X x) (hm : X.mg x = none) (hv : bootBuiltins x = some (.type T)) (ha : EA X W (e :: es) ga) (hnn : x ≠ "__name__" := by decide) (hdb : (x == ("__debug__" : Str)) = false := by decide)
    (he : starEach (e :: es) X.env = (false, eval e X.env) :: starEach es X.env := by rfl) (hpl : (backTo pos (starEach es X.env)).any (·.1) = false := by rfl) : EE X W (.Call (.Name x p) (e :: es) [] pos) (eCall ga k) := by
  refine PE.by (pe_callTy hc hg hm hv ha hnn hdb he hpl) fun σ H Q ⟨en, S, ρ, rs, re, q⟩ => ?_
  exact tAg_then (g := k) rs re q fun xs H1 ds S1 ρ1 r1 e1 x1 rv q1 => ⟨ds, S1, ρ1, r1, rv, aft_noE (fun _ _ _ => hn _ _ _ _ _) q1⟩
def bLen : Bk := fun ds S => match ds with
  | [.loc l] => match lstAt S l with
    | some xs => .ok (.int xs.length) S
    | none => .bad
  | [.tup xs] => .ok (.int xs.length) S
  | [.str z] => if z.length ≤ sizeLine then .ok (.int z.length) S else .bad
  | _ => .bad
theorem nb_len : noExc1 bLen := by
  intro ds S C fs S' h
  unfold bLen at h; (repeat' split at h) <;> cases h
theorem cr_len' : CallR X (.builtin "len") (rCD X.K bLen) := by
  intro pins s σ H xs us Q I r ⟨ds, S, ρ, rs, rv, q⟩
  unfold bLen at q
  split at q
  · obtain ⟨x, rfl, r1⟩ := rv.one_inv
    obtain ⟨p, hp, rfl⟩ := rv_loc r1
    split at q
    · rename_i ds hd
      obtain ⟨xs, h1, h2⟩ := lstAt_seq rs hp hd
      exact call_len pins s σ H _ us Q I r ⟨_, xs.length, rfl, .inl ⟨xs, h1, rfl⟩, by rw [h2.length]; exact aft_flat rs q (rv_int _)⟩
    · exact q.elim
  · obtain ⟨x, rfl, r1⟩ := rv.one_inv
    obtain ⟨p, xs, rfl, h1, h2⟩ := rv_tup r1
    exact call_len pins s σ H _ us Q I r ⟨_, xs.length, rfl, .inr ⟨xs, h1, rfl⟩, by rw [h2.length]; exact aft_flat rs q (rv_int _)⟩
  · obtain ⟨x, rfl, r1⟩ := rv.one_inv
    simp only [RV] at r1; subst r1
    split at q
    · rename_i hl
      exact call_len pins s σ H _ us Q I r ⟨_, _, rfl, ⟨hl, rfl⟩, aft_flat rs q (rv_int _)⟩
    · exact q.elim
  · exact q.elim
def bAbs : Bk := fun ds S => match ds with
  | [.int i] => .ok (.int (if i < 0 then -i else i)) S
  | _ => .bad
theorem nb_abs : noExc1 bAbs := by
  intro ds S C fs S' h
  unfold bAbs at h; (repeat' split at h) <;> cases h
theorem cr_abs' : CallR X (.builtin "abs") (rCD X.K bAbs) := by
  intro pins s σ H xs us Q I r ⟨ds, S, ρ, rs, rv, q⟩
  unfold bAbs at q
  split at q
  · obtain ⟨x, rfl, r1⟩ := rv.one_inv
    simp only [RV] at r1; subst r1
    exact call_abs pins s σ H _ us Q I r ⟨_, rfl, aft_flat rs q (rv_int _)⟩
  · exact q.elim
def bMax : Bk := fun ds S => match ds with
  | [.int i, .int j] => .ok (.int (if j > i then j else i)) S
  | _ => .bad
def bMin : Bk := fun ds S => match ds with
  | [.int i, .int j] => .ok (.int (if j < i then j else i)) S
  | _ => .bad
theorem nb_max : noExc1 bMax := by
  intro ds S C fs S' h
  unfold bMax at h; (repeat' split at h) <;> cases h
theorem nb_min : noExc1 bMin := by
  intro ds S C fs S' h
  unfold bMin at h; (repeat' split at h) <;> cases h
theorem cr_max' (hc : X.calm = true) : CallR X (.builtin "max") (rCD X.K bMax) := by
  intro pins s σ H xs us Q I r ⟨ds, S, ρ, rs, rv, q⟩
  unfold bMax at q
  split at q
  · obtain ⟨x, y, rfl, r1, r2⟩ := rv.two_inv
    simp only [RV] at r1 r2; subst r1 r2
    exact call_max2 hc pins s σ H _ us Q I r ⟨_, _, rfl, aft_flat rs q (rv_int _)⟩
  · exact q.elim
theorem cr_min' (hc : X.calm = true) : CallR X (.builtin "min") (rCD X.K bMin) := by
  intro pins s σ H xs us Q I r ⟨ds, S, ρ, rs, rv, q⟩
  unfold bMin at q
  split at q
  · obtain ⟨x, y, rfl, r1, r2⟩ := rv.two_inv
    simp only [RV] at r1 r2; subst r1 r2
    exact call_min2 hc pins s σ H _ us Q I r ⟨_, _, rfl, aft_flat rs q (rv_int _)⟩
  · exact q.elim
def bInt : Bk := fun ds S => match ds with
  | [.int i] => .ok (.int i) S
  | [.bl b] => .ok (.int (if b then 1 else 0)) S
  | _ => .bad
theorem nb_int : noExc1 bInt := by
  intro ds S C fs S' h
  unfold bInt at h; (repeat' split at h) <;> cases h
theorem cr_int' : CallR X (.type "int") (rCD X.K bInt) := by
  intro pins s σ H xs us Q I r ⟨ds, S, ρ, rs, rv, q⟩
  unfold bInt at q
  split at q
  · obtain ⟨x, rfl, r1⟩ := rv.one_inv
    simp only [RV] at r1; subst r1
    exact call_int1 pins s σ H _ us Q I r (.inl ⟨_, rfl, aft_flat rs q (rv_int _)⟩)
  · obtain ⟨x, rfl, r1⟩ := rv.one_inv
    simp only [RV] at r1; subst r1
    exact call_int1 pins s σ H _ us Q I r (.inr ⟨_, rfl, aft_flat rs q (rv_int _)⟩)
  · exact q.elim
def bStr : Bk := fun ds S => match ds with
  | [.int i] => if i.natAbs.log2 < 1920 then .ok (.str (toString i)) S else .bad
  | _ => .bad
theorem nb_str : noExc1 bStr := by
  intro ds S C fs S' h
  unfold bStr at h; (repeat' split at h) <;> cases h
theorem cr_str' : CallR X (.type "str") (rCD X.K bStr) := by
  intro pins s σ H xs us Q I r ⟨ds, S, ρ, rs, rv, q⟩
  unfold bStr at q
  split at q
  · obtain ⟨x, rfl, r1⟩ := rv.one_inv
    simp only [RV] at r1; subst r1
    split at q
    · rename_i hl
      exact call_str_int pins s σ H _ us Q I r ⟨_, rfl, hl, aft_flat rs q (rv_str _)⟩
    · exact q.elim
  · exact q.elim
def bList : Bk := fun ds S => match ds with
  | [.loc l] => match lstAt S l with
    | some xs => newL xs S
    | none => .bad
  | [.tup xs] => newL xs S
  | _ => .bad
theorem nb_list : noExc1 bList := by
  intro ds S C fs S' h
  unfold bList newL at h; (repeat' split at h) <;> cases h
theorem cr_list' : CallR X (.type "list") (rCD X.K bList) := by
  intro pins s σ H xs us Q I r ⟨ds, S, ρ, rs, rv, q⟩
  unfold bList at q
  split at q
  · obtain ⟨x, rfl, r1⟩ := rv.one_inv
    obtain ⟨p, hp, rfl⟩ := rv_loc r1
    split at q
    · rename_i ds hd
      obtain ⟨xs, h1, h2⟩ := lstAt_seq rs hp hd
      exact call_list_of pins s σ H _ us Q I r ⟨p, xs, rfl, .inl h1, (aft_lst rs q h2).2⟩
    · exact q.elim
  · obtain ⟨x, rfl, r1⟩ := rv.one_inv
    obtain ⟨p, xs, rfl, h1, h2⟩ := rv_tup r1
    exact call_list_of pins s σ H _ us Q I r ⟨p, xs, rfl, .inr h1, (aft_lst rs q h2).2⟩
  · exact q.elim
def bTuple : Bk := fun ds S => match ds with
  | [.loc l] => match lstAt S l with
    | some xs => .ok (.tup xs) S
    | none => .bad
  | [.tup xs] => .ok (.tup xs) S
  | _ => .bad
theorem nb_tuple : noExc1 bTuple := by
  intro ds S C fs S' h
  unfold bTuple at h; (repeat' split at h) <;> cases h
theorem cr_tuple' : CallR X (.type "tuple") (rCD X.K bTuple) := by
  intro pins s σ H xs us Q I r ⟨ds, S, ρ, rs, rv, q⟩
  unfold bTuple at q
  split at q
  · obtain ⟨x, rfl, r1⟩ := rv.one_inv
    obtain ⟨p, hp, rfl⟩ := rv_loc r1
    split at q
    · rename_i ds hd
      obtain ⟨xs, h1, h2⟩ := lstAt_seq rs hp hd
      exact call_tuple_of pins s σ H _ us Q I r ⟨p, xs, rfl, .inl ⟨h1, fun l hl => aft_tup rs q h2 hl⟩⟩
    · exact q.elim
  · obtain ⟨x, rfl, r1⟩ := rv.one_inv
    obtain ⟨p, xs, rfl, h1, h2⟩ := rv_tup r1
    exact call_tuple_of pins s σ H _ us Q I r ⟨p, xs, rfl, .inr ⟨h1, aft_flat rs q (by simp only [RV]; exact ⟨p, xs, rfl, h1, h2⟩)⟩⟩
  · exact q.elim
end

/-! ### statements -/
inductive Fl where
  | nx (e : Env) | rt (d : D) | bk (e : Env) | ct (e : Env)
abbrev Sg := Env → Store → Out Fl
/-- what a flow is to meet -/
def FlQ (K : PySem.W.Frag) (D' : Ends) (H : Hp) (ρ : List Addr) : Fl → Prop
  | .nx e => ∀ σ, RE K H ρ e σ → D'.nx σ H
  | .rt d => ∀ x, RV K H ρ d x → D'.rt x H
  | .bk e => ∀ σ, RE K H ρ e σ → D'.bk σ H
  | .ct e => ∀ σ, RE K H ρ e σ → D'.ct σ H
/-- an outcome of a statement: W at whatever slots -/
def AftS (K : PySem.W.Frag) (W : WX) (H : Hp) (ρ : List Addr) (o : Out Fl) (D' : Ends) : Prop := match o with
  | .ok f S => ∀ ρ' H', RelS K H' S ρ' → Ext H H' ρ ρ' → FlQ K D' H' ρ' f
  | .exc C fs S => ∀ ρ' H' d xs σ, RelS K H' S ρ' → Ext H H' ρ ρ' → H' d = some (.xd xs) → RF K H' ρ' fs xs → W (.ref (He.ga K C)) (some d) σ H'
  | .bad => False
def tSt (K : PySem.W.Frag) (W : WX) (f : Sg) : TS := fun D' σ H => ∃ e S ρ, RelS K H S ρ ∧ RE K H ρ e σ ∧ AftS K W H ρ (f e S) D'
abbrev ES (X : Cx) (W : WX) (st : Stmt) (f : Sg) : Prop := PS X st (tSt X.K W f)
abbrev ESs (X : Cx) (W : WX) (sts : List Stmt) (f : Sg) : Prop := PSs X sts (tSt X.K W f)
section
variable {K : PySem.W.Frag} {W : WX} {H H' : Hp} {ρ ρ' : List Addr} {S : Store}
theorem AftS.later {o : Out Fl} {D' : Ends} (x : Ext H H' ρ ρ') (h : AftS K W H ρ o D') : AftS K W H' ρ' o D' := by
  cases o with
  | ok v S => exact fun ρ1 H1 r e => h ρ1 H1 r (x.trans e)
  | exc C fs S => exact fun ρ1 H1 d xs σ r e hd rf => h ρ1 H1 d xs σ r (x.trans e) hd rf
  | bad => exact h
/-- an expression, then the rest of the statement -/
theorem AftS.split {α β : Type} {RA : Hp → List Addr → α → β → Prop} {o : Out α} {g : α → Store → Out Fl} {D' : Ends} {σ : L2.St} (h : AftS K W H ρ (o.bind g) D') :
    Aft K (WE W σ) H ρ RA o (fun x H1 => ∃ v S1 ρ1, RelS K H1 S1 ρ1 ∧ Ext H H1 ρ ρ1 ∧ RA H1 ρ1 v x ∧ AftS K W H1 ρ1 (g v S1) D') := by
  cases o with
  | ok v S => exact fun ρ1 H1 y r e ra => ⟨v, S, ρ1, r, e, ra, AftS.later e h⟩
  | exc C fs S => exact fun ρ1 H1 d xs r e hd rf => h ρ1 H1 d xs σ r e hd rf
  | bad => exact h
/-- a statement, then the rest -/
def Fl.then (f : Fl) (S : Store) (g : Sg) : Out Fl := match f with
  | .nx e => g e S
  | f => .ok f S
theorem AftS.seq {o : Out Fl} {g : Sg} {D' : Ends} (h : AftS K W H ρ (o.bind fun f S => f.then S g) D') : AftS K W H ρ o { D' with nx := tSt K W g D' } := by
  cases o with
  | ok f S =>
    intro ρ1 H1 r e
    have h' := AftS.later e h
    cases f with
    | nx en => exact fun σ re => ⟨en, S, ρ1, r, re, h'⟩
    | rt d => exact fun x rx => h' ρ1 H1 r .refl x rx
    | bk en => exact fun σ re => h' ρ1 H1 r .refl σ re
    | ct en => exact fun σ re => h' ρ1 H1 r .refl σ re
  | exc C fs S => exact h
  | bad => exact h
end
section
variable {X : Cx} {W : WX} {st : Stmt} {sts : List Stmt} {a b c e : Expr} {pos pos' : Pos} {fa fb : Ex} {ta : Te} {f g : Sg}
theorem PS.by {t t' : TS} (h : PS X st t) (k : ∀ D' σ H, t' D' σ H → t D' σ H) : PS X st t' := ⟨fun pins s σ H D' I q => h.run pins s σ H D' I (k D' σ H q)⟩
theorem PSs.by {t t' : TS} (h : PSs X sts t) (k : ∀ D' σ H, t' D' σ H → t D' σ H) : PSs X sts t' := ⟨fun pins s σ H D' I q => h.run pins s σ H D' I (k D' σ H q)⟩
def sNext : Sg := fun e S => .ok (.nx e) S
def sSeq (f g : Sg) : Sg := fun e S => (f e S).bind fun fl S1 => fl.then S1 g
theorem ess_nil : ESs X W [] sNext := PSs.by pss_nil fun D' σ H ⟨en, S, ρ, rs, re, q⟩ => q ρ H rs .refl σ re
theorem ess_cons (h1 : ES X W st f) (h2 : ESs X W sts g) : ESs X W (st :: sts) (sSeq f g) := PSs.by (pss_cons h1 h2) fun D' σ H ⟨en, S, ρ, rs, re, q⟩ => ⟨en, S, ρ, rs, re, AftS.seq q⟩
theorem ess_one (h1 : ES X W st f) : ESs X W [st] f := pss_one h1
def sBreak : Sg := fun e S => .ok (.bk e) S
def sCont : Sg := fun e S => .ok (.ct e) S
theorem es_pass : ES X W (.Pass pos) sNext := PS.by ps_pass fun D' σ H ⟨en, S, ρ, rs, re, q⟩ => q ρ H rs .refl σ re
theorem es_break : ES X W (.Break pos) sBreak := PS.by ps_break fun D' σ H ⟨en, S, ρ, rs, re, q⟩ => q ρ H rs .refl σ re
theorem es_continue : ES X W (.Continue pos) sCont := PS.by ps_continue fun D' σ H ⟨en, S, ρ, rs, re, q⟩ => q ρ H rs .refl σ re
/-- from an expression to the rest of the statement -/
theorem tEv_st {σ : L2.St} {H : Hp} {en : Env} {S : Store} {ρ : List Addr} {P : VK} {g : D → Store → Out Fl} {D' : Ends} (rs : RelS X.K H S ρ) (re : RE X.K H ρ en σ) (q : AftS X.K W H ρ ((fa en S).bind g) D')
    (hk : ∀ x H1 v S1 ρ1, RelS X.K H1 S1 ρ1 → RE X.K H1 ρ1 en σ → Ext H H1 ρ ρ1 → RV X.K H1 ρ1 v x → AftS X.K W H1 ρ1 (g v S1) D' → P x H1) : tEv X.K W fa σ H P :=
  ⟨en, S, ρ, rs, re, (AftS.split q).imp fun x H1 ⟨v, S1, ρ1, r1, x1, rv, q1⟩ => hk x H1 v S1 ρ1 r1 (re.mono x1) x1 rv q1⟩
def sExpr (f : Ex) : Sg := fun e S => (f e S).bind fun _ S1 => .ok (.nx e) S1
theorem es_expr (he : EE X W e fa) (hs : swapsWith e none pos.line X.env = pure false := by rfl) : ES X W (.Expr e pos) (sExpr fa) := PS.by (ps_expr he hs) fun D' σ H ⟨en, S, ρ, rs, re, q⟩ =>
  tEv_st (g := fun _ S1 => .ok (.nx en) S1) rs re q fun x H1 v S1 ρ1 r1 e1 x1 rv q1 => q1 ρ1 H1 r1 .refl σ e1
def sRet (f : Ex) : Sg := fun e S => (f e S).bind fun d S1 => .ok (.rt d) S1
theorem es_ret (he : EE X W e fa) : ES X W (.Return (some e) pos) (sRet fa) := PS.by (ps_ret he) fun D' σ H ⟨en, S, ρ, rs, re, q⟩ =>
  tEv_st (g := fun d S1 => .ok (.rt d) S1) rs re q fun x H1 v S1 ρ1 r1 e1 x1 rv q1 => q1 ρ1 H1 r1 .refl x rv
def sRetN : Sg := fun _ S => .ok (.rt .non) S
theorem es_retN : ES X W (.Return none pos) sRetN := PS.by ps_retN fun D' σ H ⟨en, S, ρ, rs, re, q⟩ => q ρ H rs .refl .non rv_non
def sIf (t : Te) (f g : Sg) : Sg := fun e S => (t e S).bind fun b S1 => if b = true then f e S1 else g e S1
theorem es_if {sa sb : List Stmt} (hc : ET X W c ta) (ha : ESs X W sa f) (hb : ESs X W sb g) : ES X W (.If c sa sb pos) (sIf ta f g) := PS.by (ps_if hc ha hb) fun D' σ H ⟨en, S, ρ, rs, re, q⟩ => by
  refine ⟨en, S, ρ, rs, re, (AftS.split (RA := RB') q).imp fun b H1 ⟨v, S1, ρ1, r1, x1, rv, q1⟩ => ?_⟩
  have rv : v = b := rv
  subst rv
  by_cases hb : v = true
  · rw [if_pos hb] at q1 ⊢
    exact ⟨en, S1, ρ1, r1, re.mono x1, q1⟩
  · rw [if_neg hb] at q1 ⊢
    exact ⟨en, S1, ρ1, r1, re.mono x1, q1⟩

/-! targets -/
abbrev Tg := D → Env → Store → Out Env
def tTg (K : PySem.W.Frag) (W : WX) (t : Tg) : TG := fun v σ H Q => ∃ d e S ρ, RelS K H S ρ ∧ RE K H ρ e σ ∧ RV K H ρ d v ∧ (match t d e S with
  | .ok e' S' => ∀ ρ' H' σ', RelS K H' S' ρ' → Ext H H' ρ ρ' → RE K H' ρ' e' σ' → Q σ' H'
  | _ => False)
abbrev EG (X : Cx) (W : WX) (tg : Expr) (t : Tg) : Prop := PG X tg (tTg X.K W t)
theorem PG.by {tg : Expr} {t t' : TG} (h : PG X tg t) (k : ∀ v σ H Q, t' v σ H Q → t v σ H Q) : PG X tg t' := ⟨fun pins s σ H v u Q I r q => h.run pins s σ H v u Q I r (k v σ H Q q)⟩
def gN (i : Nat) : Tg := fun d e S => .ok (e.set i (some d)) S
theorem eg_name {i : Nat} {x : Str} (hN : X.N.Nodup) (hi : X.N[i]? = some x) (hx : Loc X.env.scope x) (hf : X.fn x = true ∨ X.env.scope.names.lookup x = some .local := by first | exact .inl rfl | exact .inr rfl | assumption) : EG X W (.Name x pos) (gN i) :=
  PG.by (pg_name hN hi hx hf) fun v σ H Q ⟨d, e, S, ρ, rs, re, rv, q⟩ => q ρ H _ rs .refl (re.set i rv)
/-- several targets -/
abbrev Tgs := List D → Env → Store → Out Env
def tTgs (K : PySem.W.Frag) (W : WX) (t : Tgs) : TGs := fun vs σ H Q => ∃ ds e S ρ, RelS K H S ρ ∧ RE K H ρ e σ ∧ RVs K H ρ ds vs ∧ (match t ds e S with
  | .ok e' S' => ∀ ρ' H' σ', RelS K H' S' ρ' → Ext H H' ρ ρ' → RE K H' ρ' e' σ' → Q σ' H'
  | _ => False)
abbrev EGs (X : Cx) (W : WX) (tg : List Expr) (t : Tgs) : Prop := PGs X tg (tTgs X.K W t)
theorem PGs.by {tg : List Expr} {t t' : TGs} (h : PGs X tg t) (k : ∀ v σ H Q, t' v σ H Q → t v σ H Q) : PGs X tg t' := ⟨fun pins s σ H v u Q I r q => h.run pins s σ H v u Q I r (k v σ H Q q)⟩
def gsNil : Tgs := fun ds e S => match ds with
  | [] => .ok e S
  | _ => .bad
def gsCons (t : Tg) (u : Tgs) : Tgs := fun ds e S => match ds with
  | d :: r => (t d e S).bind fun e' S' => u r e' S'
  | _ => .bad
theorem egs_nil : EGs X W [] gsNil := PGs.by pgs_nil fun vs σ H Q ⟨ds, e, S, ρ, rs, re, rv, q⟩ => by
  unfold gsNil at q
  cases ds with
  | nil => exact ⟨rv.nil_inv, q ρ H σ rs .refl re⟩
  | cons d r => exact q.elim
theorem egs_cons {tg : Expr} {tgs : List Expr} {t : Tg} {u : Tgs} (h1 : EG X W tg t) (h2 : EGs X W tgs u) (hs : (assignEach (tg :: tgs) X.env).map (·.2) = assign tg X.env :: (assignEach tgs X.env).map (·.2) := by rfl) : EGs X W (tg :: tgs) (gsCons t u) :=
  PGs.by (pgs_cons h1 h2 hs) fun vs σ H Q ⟨ds, e, S, ρ, rs, re, rv, q⟩ => by
    cases ds with
    | nil => exact q.elim
    | cons d r =>
      simp only [gsCons] at q
      obtain ⟨x, xs, rfl, r1, r2⟩ := rv.cons_inv
      refine ⟨x, xs, rfl, d, e, S, ρ, rs, re, r1, ?_⟩
      cases ht : t d e S with
      | ok e' S' =>
        rw [ht] at q
        intro ρ' H' σ' rs' ex re'
        refine ⟨r, e', S', ρ', rs', re', r2.mono ex, ?_⟩
        cases hu : u r e' S' with
        | ok e2 S2 =>
          simp only [Out.bind_ok, hu] at q
          exact fun ρ2 H2 σ2 rs2 ex2 re2 => q ρ2 H2 σ2 rs2 (ex.trans ex2) re2
        | exc C fs S2 => simp only [Out.bind_ok, hu] at q
        | bad => simp only [Out.bind_ok, hu] at q
      | exc C fs S' => rw [ht] at q; exact q.elim
      | bad => rw [ht] at q; exact q.elim
def gT (n : Nat) (u : Tgs) : Tg := fun d e S => match d with
  | .tup ds => if ds.length = n then u ds e S else .bad
  | _ => .bad
theorem eg_tup {tgs : List Expr} {k1 : Nat} {u : Tgs} {n : Nat} (hc : X.calm = true) (h : EGs X W tgs u) (hn : (assignEach tgs X.env).length = n := by rfl) (hst : (assignEach tgs X.env).findIdx? (·.1) = none := by rfl) : EG X W (.Tuple tgs k1 pos) (gT n u) :=
  PG.by (pg_tup hc h hn hst) fun v σ H Q ⟨d, e, S, ρ, rs, re, rv, q⟩ => by
    cases d <;> simp only [gT] at q <;> try exact q.elim
    rename_i ds
    obtain ⟨a, xs, rfl, h1, h2⟩ := rv_tup rv
    by_cases hl : ds.length = n
    · rw [if_pos hl] at q
      exact ⟨a, xs, rfl, h1, by rw [h2.length]; exact hl, _, e, S, ρ, rs, re, h2, q⟩
    · rw [if_neg hl] at q
      exact q.elim
/-- o[i] = v, o a list -/
def gIx (fo fi : Ex) : Tg := fun d e S => (fo e S).bind fun o S1 => (fi e S1).bind fun i S2 => match o, i with
  | .loc l, .int k => match S2[l]? with
    | some (.lst ds) => match ixN ds.length k with
      | some j => .ok e (S2.set l (.lst (ds.set j d)))
      | none => .bad
    | _ => .bad
  | _, _ => .bad
def sAsg (f : Ex) (t : Tg) : Sg := fun e S => (f e S).bind fun d S1 => (t d e S1).bind fun e' S2 => .ok (.nx e') S2
theorem tg_aft {t : Tg} {d : D} {e : Env} {S : Store} {H : Hp} {ρ : List Addr} {D' : Ends} (hn : ∀ C fs S', t d e S ≠ .exc C fs S') (q : AftS X.K W H ρ ((t d e S).bind fun e' S2 => .ok (.nx e') S2) D') : (match t d e S with
  | .ok e' S' => ∀ ρ' H' σ', RelS X.K H' S' ρ' → Ext H H' ρ ρ' → RE X.K H' ρ' e' σ' → D'.nx σ' H'
  | _ => False) := by
  cases ht : t d e S with
  | ok e' S' => rw [ht] at q; exact fun ρ' H' σ' rs ex re => q ρ' H' rs ex σ' re
  | exc C fs S' => exact (hn _ _ _ ht).elim
  | bad => rw [ht] at q; exact q
def noExcT (t : Tg) : Prop := ∀ d e S C fs S', t d e S ≠ .exc C fs S'
theorem es_asg {tg : Expr} {t : Tg} (he : EE X W e fa) (hg : EG X W tg t) (hn : noExcT t) (hs : swapsWithSole [tg] e pos.line X.env = pure false := by rfl) (hw : swappedStores [tg] e X.env = pure none := by rfl)
    (h1 : (assignEach [tg] X.env).map (·.2) = [assign tg X.env] := by rfl) : ES X W (.Assign [tg] e pos) (sAsg fa t) := PS.by (ps_asg he hg hs hw h1) fun D' σ H ⟨en, S, ρ, rs, re, q⟩ =>
  tEv_st (g := fun d S1 => (t d en S1).bind fun e' S2 => .ok (.nx e') S2) rs re q fun x H1 v S1 ρ1 r1 e1 x1 rv q1 => ⟨v, en, S1, ρ1, r1, e1, rv, tg_aft (fun _ _ _ => hn _ _ _ _ _ _) q1⟩
theorem nt_name (i : Nat) : noExcT (gN i) := fun _ _ _ _ _ _ h => by cases h
theorem es_set {i : Nat} {x : Str} {pos' : Pos} (hN : X.N.Nodup) (hi : X.N[i]? = some x) (hx : Loc X.env.scope x) (he : EE X W e fa) (hs : swapsWith e (some (.Name x pos')) pos.line X.env = pure false := by rfl) (hf : X.fn x = true ∨ X.env.scope.names.lookup x = some .local := by first | exact .inl rfl | exact .inr rfl | assumption) :
    ES X W (.Assign [.Name x pos'] e pos) (sAsg fa (gN i)) := PS.by (ps_set hN hi hx he hs hf) fun D' σ H ⟨en, S, ρ, rs, re, q⟩ =>
  tEv_st (g := fun d S1 => (gN i d en S1).bind fun e' S2 => .ok (.nx e') S2) rs re q fun x H1 v S1 ρ1 r1 e1 x1 rv q1 => q1 ρ1 H1 r1 .refl _ (e1.set i rv)
/-- o[i] = e, o a list -/
def tIxSet (K : PySem.W.Frag) : V → V → V → Hp → (Hp → Prop) → Prop := fun o i v H Q => ∃ l k d S ρ ds j a, RelS K H S ρ ∧ ρ[l]? = some a ∧ o = .ref a ∧ i = .int k ∧ RV K H ρ d v ∧ S[l]? = some (.lst ds) ∧ ixN ds.length k = some j ∧
  ∀ ρ' H', RelS K H' (S.set l (.lst (ds.set j d))) ρ' → Ext H H' ρ ρ' → Q H'
theorem set_ix : PSet X (tIxSet X.K) := by
  intro pins s σ H o i v ov iv u Q I r1 r2 r3 ⟨l, k, d, S, ρ, ds, j, a, rs, hl, eo, ei, rv, hS, hj, q⟩
  subst eo ei
  obtain ⟨xs, h1, h2⟩ := lst_of rs hS hl
  refine set_list pins s σ H _ _ v ov iv u Q I r1 r2 r3 ⟨a, xs, k, j, rfl, rfl, h1, by rw [h2.length]; exact hj, ?_⟩
  have ex := Ext.write (o := .lst (xs.set j v)) rs hl
  exact q ρ _ (rs.write hl ⟨_, upd_same, (h2.mono ex).set (rv.mono ex) j⟩) ex
theorem eg_ix {o i : Expr} {fo fi : Ex} (ho : EE X W o fo) (hi : EE X W i fi) (nW : ∀ e S C fs S', fo e S ≠ .exc C fs S') (nI : ∀ e S C fs S', fi e S ≠ .exc C fs S')
    (ha : ∀ v, assign (.Subscript o i pos) X.env v = (do
      let ov ← holding [v] (eval o X.env)
      let iv ← holding [v, ov] (eval i X.env)
      standAt pos
      holding [v, ov, iv] (setItem ov iv v)
      release [v, ov, iv] []) := by intro _; rfl) : EG X W (.Subscript o i pos) (gIx fo fi) :=
  PG.by (pg_sub ho hi set_ix ha) fun v σ H Q ⟨d, e, S, ρ, rs, re, rv, q⟩ => by
    refine ⟨e, S, ρ, rs, re, ?_⟩
    unfold gIx at q
    cases h1 : fo e S with
    | exc C fs S' => exact (nW _ _ _ _ _ h1).elim
    | bad => rw [h1] at q; exact q.elim
    | ok o' S1 =>
      rw [h1] at q
      intro ρ1 H1 x rs1 ex1 rv1
      refine ⟨e, S1, ρ1, rs1, re.mono ex1, ?_⟩
      cases h2 : fi e S1 with
      | exc C fs S' => exact (nI _ _ _ _ _ h2).elim
      | bad => simp only [Out.bind_ok, h2] at q; exact q.elim
      | ok i' S2 =>
        simp only [Out.bind_ok, h2] at q
        intro ρ2 H2 y rs2 ex2 rv2
        cases o' <;> cases i' <;> try exact q.elim
        rename_i l k
        simp only at q
        cases h3 : S2[l]? with
        | none => rw [h3] at q; exact q.elim
        | some ob =>
          rw [h3] at q
          cases ob <;> try exact q.elim
          rename_i ds
          simp only at q
          cases h4 : ixN ds.length k with
          | none => rw [h4] at q; exact q.elim
          | some j =>
            rw [h4] at q
            obtain ⟨a, ha', rfl⟩ := rv_loc (rv1.mono ex2)
            simp only [RV] at rv2
            subst rv2
            refine ⟨l, k, d, S2, ρ2, ds, j, a, rs2, ha', rfl, rfl, (rv.mono ex1).mono ex2, h3, h4, fun ρ' H' rs' ex' => ?_⟩
            exact q ρ' H' σ rs' ((ex1.trans ex2).trans ex') (((re.mono ex1).mono ex2).mono ex')
theorem nt_ix {fo fi : Ex} (nW : ∀ e S C fs S', fo e S ≠ .exc C fs S') (nI : ∀ e S C fs S', fi e S ≠ .exc C fs S') : noExcT (gIx fo fi) := by
  intro d e S C fs S' h
  unfold gIx at h
  cases h1 : fo e S with
  | exc C fs S' => exact nW _ _ _ _ _ h1
  | bad => rw [h1] at h; cases h
  | ok o' S1 =>
    rw [h1] at h
    simp only [Out.bind_ok] at h
    cases h2 : fi e S1 with
    | exc C fs S' => exact nI _ _ _ _ _ h2
    | bad => rw [h2] at h; cases h
    | ok i' S2 =>
      rw [h2] at h
      simp only [Out.bind_ok] at h
      (repeat' split at h) <;> cases h
/-- x op= e at a name -/
def sAug (i : Nat) (f : Ex) (k : D → D → Store → Out D) : Sg := fun e S => (eVar i e S).bind fun d S1 => (f e S1).bind fun d' S2 => (k d d' S2).bind fun v S3 => .ok (.nx (e.set i (some v))) S3
theorem es_aug {i : Nat} {x : Str} {op : Operator} {pos' : Pos} {k : D → D → Store → Out D} (ho : OpR X (inplaceOp op) (rD2 X.K k)) (hn : noExc k) (hN : X.N.Nodup) (hi : X.N[i]? = some x) (hx : Loc X.env.scope x) (he : EE X W e fa)
    (hf : X.fn x = true ∨ X.env.scope.names.lookup x = some .local := by first | exact .inl rfl | exact .inr rfl | assumption) : ES X W (.AugAssign (.Name x pos') op e pos) (sAug i fa k) :=
  PS.by (ps_aug hN hi hx he (fun pins s σ H x y v u Q I r1 r2 q => ho pins s σ H x y v u Q I r1 r2 q) hf) fun D' σ H ⟨en, S, ρ, rs, re, q⟩ => by
    unfold sAug eVar at q
    cases hv : en[i]? with
    | none => rw [hv] at q; exact q.elim
    | some o =>
      rw [hv] at q
      cases o with
      | none => exact q.elim
      | some d =>
        obtain ⟨v, h1, h2⟩ := re.2 i d hv
        refine ⟨v, h1, tEv_st (g := fun d' S2 => (k d d' S2).bind fun v S3 => .ok (.nx (en.set i (some v))) S3) rs re q fun y H1 d' S1 ρ1 r1 e1 x1 rv q1 => ?_⟩
        have q2 := AftS.split (σ := σ) (RA := RV X.K) q1
        refine rd2_of r1 (h2.mono x1) rv hn (q2.imp ?_)
        rintro z H2 ⟨dz, S3, ρ3, r3, x3, rv3, q3⟩
        exact q3 ρ3 H2 r3 .refl _ ((e1.mono x3).set i rv3)
end
end Ev

/-! Ev4: what is walked, for, while, comprehensions. -/
namespace Ev
open PySem PySem.Spec PyProof.Rows L2

/-- what is walked: the item of a turn (none: there is no telling; some none: the end), and how many turns at most -/
structure Src where
  next : Nat → Store → Option (Option D)
  fuel : Nat
abbrev Ig := Env → Store → Out Src
/-- an iterator J tells the items of src -/
def ItOk (K : PySem.W.Frag) (H0 : Hp) (ρ0 : List Addr) (src : Src) (J : It) : Prop := ∀ (i : Nat) (H : Hp) (S : Store) (ρ : List Addr), RelS K H S ρ → Ext H0 H ρ0 ρ →
  (∀ d, src.next i S = some (some d) → J.go i H ∧ ∀ x H', J.yld i H x H' → RelS K H' S ρ ∧ Ext H H' ρ ρ ∧ RV K H' ρ d x) ∧ (src.next i S = some none → J.stop i H)
def tIt (K : PySem.W.Frag) (W : WX) (it : Ig) : TI := fun σ H R => ∃ e S ρ, RelS K H S ρ ∧ RE K H ρ e σ ∧ Aft K (WE W σ) H ρ (fun H' ρ' src J => ItOk K H' ρ' src J) (it e S) R
abbrev EI (X : Cx) (W : WX) (tg iter : Expr) (it : Ig) : Prop := PI X tg iter (tIt X.K W it)
def srcOf (xs : List D) : Src := ⟨fun i _ => some xs[i]?, xs.length⟩
def srcL (l : Nat) (n : Nat) : Src := ⟨fun i S => (lstAt S l).map (·[i]?), n⟩
section
variable {X : Cx} {W : WX} {a b c e tg : Expr} {es : List Expr} {pos p : Pos} {fa fb : Ex} {ga : Ag}
theorem PI.by {iter : Expr} {t t' : TI} (h : PI X tg iter t) (k : ∀ σ H R, t' σ H R → t σ H R) : PI X tg iter t' := ⟨fun pins s σ H R I q => h.run pins s σ H R I (k σ H R q)⟩
/-- over a list, as it stands at each turn -/
def iL (f : Ex) : Ig := fun e S => (f e S).bind fun d S1 => match d with
  | .loc l => match lstAt S1 l with
    | some ds => .ok (srcL l ds.length) S1
    | none => .bad
  | _ => .bad
theorem ei_list (he : EE X W e fa) : EI X W tg e (iL fa) := PI.by (pi_list he) fun σ H R ⟨en, S, ρ, rs, re, q⟩ => by
  refine tEv_then (g := fun d S1 => match d with
    | .loc l => match lstAt S1 l with
      | some ds => Out.ok (srcL l ds.length) S1
      | none => Out.bad
    | _ => Out.bad) rs re q fun x H1 d S1 ρ1 r1 e1 x1 rv q1 => ?_
  cases d <;> try exact q1.elim
  rename_i l
  obtain ⟨p, hp, rfl⟩ := rv_loc rv
  simp only at q1
  cases hd : lstAt S1 l with
  | none => rw [hd] at q1; exact q1.elim
  | some ds =>
    rw [hd] at q1
    obtain ⟨xs, h1, h2⟩ := lstAt_seq r1 hp hd
    refine ⟨p, rfl, ⟨xs, h1⟩, q1 ρ1 H1 (Itl X.K p) r1 .refl fun i H' S' ρ' rs' ex' => ?_⟩
    have hp' := ex'.at hp
    refine ⟨fun d hn => ?_, fun hn => ?_⟩
    · simp only [srcL, Option.map_eq_some_iff] at hn
      obtain ⟨ds', h3, h4⟩ := hn
      obtain ⟨xs', h5, h6⟩ := lstAt_seq rs' hp' h3
      obtain ⟨y, h7, h8⟩ := h6.get h4
      refine ⟨⟨xs', y, h5, h7⟩, fun x H2 hy => ?_⟩
      obtain ⟨rfl, hy⟩ := hy
      have := hy xs' h5
      rw [h7] at this; cases this
      exact ⟨rs', .refl, h8⟩
    · simp only [srcL, Option.map_eq_some_iff] at hn
      obtain ⟨ds', h3, h4⟩ := hn
      obtain ⟨xs', h5, h6⟩ := lstAt_seq rs' hp' h3
      refine ⟨xs', h5, ?_⟩
      rw [h6.length]
      exact List.getElem?_eq_none_iff.mp h4
/-- over a tuple -/
def iT (f : Ex) : Ig := fun e S => (f e S).bind fun d S1 => match d with
  | .tup ds => .ok (srcOf ds) S1
  | _ => .bad
theorem ei_tup (he : EE X W e fa) : EI X W tg e (iT fa) := PI.by (pi_tup he) fun σ H R ⟨en, S, ρ, rs, re, q⟩ => by
  refine tEv_then (g := fun d S1 => match d with
    | .tup ds => Out.ok (srcOf ds) S1
    | _ => Out.bad) rs re q fun x H1 d S1 ρ1 r1 e1 x1 rv q1 => ?_
  cases d <;> try exact q1.elim
  rename_i ds
  obtain ⟨p, xs, rfl, h1, h2⟩ := rv_tup rv
  refine ⟨p, rfl, ⟨xs, h1⟩, q1 ρ1 H1 (Itt X.K p) r1 .refl fun i H' S' ρ' rs' ex' => ?_⟩
  refine ⟨fun d hn => ?_, fun hn => ?_⟩
  · simp only [srcOf, Option.some.injEq] at hn
    obtain ⟨y, h7, h8⟩ := h2.get hn
    refine ⟨⟨xs, y, ex'.sqT h1, h7⟩, fun x H2 hy => ?_⟩
    obtain ⟨rfl, hy⟩ := hy
    have := hy xs (ex'.sqT h1)
    rw [h7] at this; cases this
    exact ⟨rs', .refl, h8.mono ex'⟩
  · simp only [srcOf, Option.some.injEq] at hn
    refine ⟨xs, ex'.sqT h1, ?_⟩
    rw [h2.length]
    exact List.getElem?_eq_none_iff.mp hn
/-- range(n), range(a, b) -/
def intsD (lo : Int) (n : Nat) : List D := (List.range n).map fun (i : Nat) => .int (lo + (i : Int))
theorem it_range {K : PySem.W.Frag} {H0 : Hp} {ρ0 : List Addr} (lo : Int) (n : Nat) : ItOk K H0 ρ0 (srcOf (intsD lo n)) (Itr lo n) := fun i H S ρ rs ex => by
  have e1 : (intsD lo n)[i]? = if i < n then some (.int (lo + (i : Int))) else none := by
    unfold intsD
    rw [List.getElem?_map]
    by_cases h : i < n
    · rw [if_pos h, List.getElem?_range h]; rfl
    · rw [if_neg h, List.getElem?_eq_none (by simpa using h)]; rfl
  refine ⟨fun d hn => ?_, fun hn => ?_⟩
  · simp only [srcOf, Option.some.injEq, e1] at hn
    split at hn
    · rename_i hi
      cases hn
      exact ⟨hi, fun x H' ⟨h1, h2⟩ => by subst h1 h2; exact ⟨rs, .refl, rv_int _⟩⟩
    · cases hn
  · simp only [srcOf, Option.some.injEq, e1] at hn
    split at hn
    · cases hn
    · rename_i hi
      exact Nat.le_of_not_lt hi
def iR1 (f : Ex) : Ig := fun e S => (f e S).bind fun d S1 => (asI d S1).bind fun j S1 => if -(2 ^ 62) ≤ j ∧ j < 2 ^ 62 then .ok (srcOf (intsD 0 j.toNat)) S1 else .bad
def iR2 (f g : Ex) : Ig := fun e S => (f e S).bind fun d S1 => (g e S1).bind fun d2 S2 => (asI d S2).bind fun i S2 => (asI d2 S2).bind fun j S2 => if -(2 ^ 62) ≤ i ∧ i < 2 ^ 62 ∧ -(2 ^ 62) ≤ j ∧ j < 2 ^ 62 then .ok (srcOf (intsD i (j - i).toNat)) S2 else .bad
theorem asI_inv {α β : Type} {E : XK} {RA : Hp → List Addr → α → β → Prop} {K : PySem.W.Frag} {H : Hp} {ρ : List Addr} {d : D} {x : V} {S : Store} {g : Int → Store → Out α} {Q : β → Hp → Prop} (r : RV K H ρ d x) (q : Aft K E H ρ RA ((asI d S).bind g) Q) : ∃ i, d = .int i ∧ x = .int i ∧ Aft K E H ρ RA (g i S) Q := by
  cases d <;> first | exact q.elim | skip
  simp only [RV] at r
  exact ⟨_, rfl, r, q⟩
theorem ei_range1 (hg : Gl X "range") (hm : X.mg "range" = none) (ha : EE X W a fa) (hs : starEach [a] X.env = [(false, eval a X.env)] := by rfl) : EI X W tg (.Call (.Name "range" p) [a] [] pos) (iR1 fa) :=
  PI.by (pi_range1 hg hm (pa_cons ha pa_nil (by rw [hs]; rfl)) hs) fun σ H R ⟨en, S, ρ, rs, re, q⟩ => by
  refine tEv_then (g := fun d S1 => (asI d S1).bind fun j S1 => if -(2 ^ 62) ≤ j ∧ j < 2 ^ 62 then Out.ok (srcOf (intsD 0 j.toNat)) S1 else Out.bad) rs re q fun x H1 d S1 ρ1 r1 e1 x1 rv q1 => ?_
  obtain ⟨j, rfl, rfl, q2⟩ := asI_inv rv q1
  split at q2
  · rename_i hj
    exact ⟨j, rfl, hj.1, hj.2, q2 ρ1 H1 _ r1 .refl (it_range 0 j.toNat)⟩
  · exact q2.elim
theorem ei_range2 (hg : Gl X "range") (hm : X.mg "range" = none) (ha : EE X W a fa) (hb : EE X W b fb) (hs : starEach [a, b] X.env = [(false, eval a X.env), (false, eval b X.env)] := by rfl) (hs2 : starEach [b] X.env = [(false, eval b X.env)] := by rfl) : EI X W tg (.Call (.Name "range" p) [a, b] [] pos) (iR2 fa fb) :=
  PI.by (pi_range2 hg hm (pa_cons ha (pa_cons hb pa_nil (by rw [hs2]; rfl)) (by rw [hs, hs2])) hs hs2) fun σ H R ⟨en, S, ρ, rs, re, q⟩ => by
  refine tEv_then (g := fun d S1 => (fb en S1).bind fun d2 S2 => (asI d S2).bind fun i S2 => (asI d2 S2).bind fun j S2 => if -(2 ^ 62) ≤ i ∧ i < 2 ^ 62 ∧ -(2 ^ 62) ≤ j ∧ j < 2 ^ 62 then Out.ok (srcOf (intsD i (j - i).toNat)) S2 else Out.bad) rs re q fun x H1 d S1 ρ1 r1 e1 x1 rv q1 => ?_
  refine tEv_then (g := fun d2 S2 => (asI d S2).bind fun i S2 => (asI d2 S2).bind fun j S2 => if -(2 ^ 62) ≤ i ∧ i < 2 ^ 62 ∧ -(2 ^ 62) ≤ j ∧ j < 2 ^ 62 then Out.ok (srcOf (intsD i (j - i).toNat)) S2 else Out.bad) r1 e1 q1 fun y H2 d2 S2 ρ2 r2 e2 x2 rv2 q2 => ?_
  obtain ⟨i, rfl, rfl, q3⟩ := asI_inv (rv.mono x2) q2
  obtain ⟨j, rfl, rfl, q4⟩ := asI_inv rv2 q3
  split at q4
  · rename_i hj
    exact ⟨i, j, rfl, hj, q4 ρ2 H2 _ r2 .refl (it_range i _)⟩
  · exact q4.elim
/-- enumerate(a list) -/
def pairD (i : Nat) (d : D) : D := .tup [.int (i : Int), d]
def srcE (l : Nat) (n : Nat) : Src := ⟨fun i S => (lstAt S l).map fun ds => ds[i]?.map (pairD i), n⟩
def iE (f : Ex) : Ig := fun e S => (f e S).bind fun d S1 => match d with
  | .loc l => match lstAt S1 l with
    | some ds => .ok (srcE l ds.length) S1
    | none => .bad
  | _ => .bad
theorem ei_enum {tpos : Pos} {elts : List Expr} {kk : Nat} (hg : Gl X "enumerate") (hm : X.mg "enumerate" = none) (ha : EE X W a fa) (hs : starEach [a] X.env = [(false, eval a X.env)] := by rfl) : EI X W (.Tuple elts kk tpos) (.Call (.Name "enumerate" p) [a] [] pos) (iE fa) :=
  PI.by (pi_enum hg hm (pa_cons ha pa_nil (by rw [hs]; rfl)) hs) fun σ H R ⟨en, S, ρ, rs, re, q⟩ => by
  refine tEv_then (g := fun d S1 => match d with
    | .loc l => match lstAt S1 l with
      | some ds => Out.ok (srcE l ds.length) S1
      | none => Out.bad
    | _ => Out.bad) rs re q fun x H1 d S1 ρ1 r1 e1 x1 rv q1 => ?_
  cases d <;> try exact q1.elim
  rename_i l
  obtain ⟨a', hp, rfl⟩ := rv_loc rv
  simp only at q1
  cases hd : lstAt S1 l with
  | none => rw [hd] at q1; exact q1.elim
  | some ds =>
    rw [hd] at q1
    obtain ⟨xs, h1, h2⟩ := lstAt_seq r1 hp hd
    refine ⟨a', xs, rfl, h1, q1 ρ1 H1 (Ite X.K a') r1 .refl fun i H' S' ρ' rs' ex' => ?_⟩
    have hp' := ex'.at hp
    refine ⟨fun d hn => ?_, fun hn => ?_⟩
    · simp only [srcE, Option.map_eq_some_iff] at hn
      obtain ⟨ds', h3, d', h4, rfl⟩ := hn
      obtain ⟨xs', h5, h6⟩ := lstAt_seq rs' hp' h3
      obtain ⟨y, h7, h8⟩ := h6.get h4
      refine ⟨⟨xs', y, h5, h7⟩, fun x H2 hy => ?_⟩
      obtain ⟨T, x', rfl, hT, rfl, hy⟩ := hy
      have := hy xs' h5
      rw [h7] at this; cases this
      refine ⟨rs'.upd_new hT, Ext.upd_new hT, ?_⟩
      unfold pairD
      simp only [RV]
      exact ⟨T, _, rfl, .inl (.inl upd_same), RVs.cons (rv_int _) (RVs.one (h8.mono (Ext.upd_new hT)))⟩
    · simp only [srcE, Option.map_eq_some_iff] at hn
      obtain ⟨ds', h3, h4⟩ := hn
      obtain ⟨xs', h5, h6⟩ := lstAt_seq rs' hp' h3
      refine ⟨xs', h5, ?_⟩
      rw [h6.length]
      simpa using h4

/-! ### for -/
def forN : Nat → Nat → Src → Tg → Sg → Sg
  | 0, i, src, _, _ => fun e S => match src.next i S with
    | some none => .ok (.nx e) S
    | _ => .bad
  | n + 1, i, src, t, g => fun e S => match src.next i S with
    | none => .bad
    | some none => .ok (.nx e) S
    | some (some d) => (t d e S).bind fun e1 S1 => (g e1 S1).bind fun fl S2 => match fl with
      | .nx e2 => forN n (i + 1) src t g e2 S2
      | .ct e2 => forN n (i + 1) src t g e2 S2
      | .bk e2 => .ok (.nx e2) S2
      | .rt d => .ok (.rt d) S2
def sFor (it : Ig) (t : Tg) (g : Sg) : Sg := fun e S => (it e S).bind fun src S1 => forN src.fuel 0 src t g e S1
theorem es_for {iter : Expr} {body : List Stmt} {it : Ig} {t : Tg} {g : Sg} (hp : PassesOwn (model X.prog X.w) X.A X.env X.xe) (hc : X.calm = true) (hi : EI X W tg iter it) (hg : EG X W tg t) (hn : noExcT t) (hb : ESs X W body g)
    (hs : ∀ x, foldedSetIterable iter X.env x = pure x := by intro _; rfl) : ES X W (.For tg iter body [] pos) (sFor it t g) := PS.by (ps_for hp hc hi hg hb hs) fun D' σ H ⟨en, S, ρ, rs, re, q⟩ => by
  refine ⟨en, S, ρ, rs, re, (AftS.split (σ := σ) (RA := fun H' ρ' src J => ItOk X.K H' ρ' src J) q).imp fun J H1 ⟨src, S1, ρ1, r1, x1, ok, q1⟩ => ?_⟩
  refine ⟨fun i m σ H => ∃ e S ρ, RelS X.K H S ρ ∧ RE X.K H ρ e σ ∧ Ext H1 H ρ1 ρ ∧ AftS X.K W H ρ (forN m i src t g e S) D', ⟨src.fuel, en, S1, ρ1, r1, re.mono x1, .refl, q1⟩, ?_⟩
  rintro i m σ H ⟨e, S, ρ, rs, re, ex, q⟩
  obtain ⟨go, stop⟩ := ok i H S ρ rs ex
  cases hx : src.next i S with
  | none => cases m <;> (unfold forN at q; rw [hx] at q; exact q.elim)
  | some o =>
    cases o with
    | none =>
      refine .inl ⟨stop hx, ?_⟩
      cases m <;> (unfold forN at q; rw [hx] at q; exact q ρ H rs .refl σ re)
    | some d =>
      cases m with
      | zero => unfold forN at q; rw [hx] at q; exact q.elim
      | succ n =>
        unfold forN at q
        rw [hx] at q
        dsimp only at q
        obtain ⟨g1, g2⟩ := go d hx
        refine .inr ⟨g1, fun σ H => ∃ e S ρ, RelS X.K H S ρ ∧ RE X.K H ρ e σ ∧ Ext H1 H ρ1 ρ ∧ AftS X.K W H ρ (forN n (i + 1) src t g e S) D', fun σ' H' w => ⟨n, Nat.lt_succ_self n, w⟩, fun x H' hy => ?_⟩
        obtain ⟨rs2, ex2, rv2⟩ := g2 x H' hy
        refine ⟨d, e, S, ρ, rs2, re.mono ex2, rv2, ?_⟩
        cases ht : t d e S with
        | exc C fs S' => exact (hn _ _ _ _ _ _ ht).elim
        | bad => rw [ht] at q; exact q.elim
        | ok e1 S2 =>
          simp only [ht, Out.bind_ok] at q
          intro ρ3 H3 σ3 rs3 ex3 re3
          refine ⟨e1, S2, ρ3, rs3, re3, ?_⟩
          have ex13 : Ext H1 H3 ρ1 ρ3 := (ex.trans ex2).trans ex3
          have q := AftS.later (ex2.trans ex3) q
          cases hg1 : g e1 S2 with
          | bad => rw [hg1] at q; exact q.elim
          | exc C fs S3 => rw [hg1] at q; exact q
          | ok fl S3 =>
            simp only [hg1, Out.bind_ok] at q
            intro ρ4 H4 rs4 ex4
            have q := AftS.later ex4 q
            cases fl with
            | nx e2 => exact fun σ4 re4 => ⟨e2, S3, ρ4, rs4, re4, ex13.trans ex4, q⟩
            | ct e2 => exact fun σ4 re4 => ⟨e2, S3, ρ4, rs4, re4, ex13.trans ex4, q⟩
            | bk e2 => exact fun σ4 re4 => q ρ4 H4 rs4 .refl σ4 re4
            | rt d => exact fun x rx => q ρ4 H4 rs4 .refl x rx

/-! ### while -/
def whileN : Nat → Te → Sg → Sg
  | 0, _, _ => fun _ _ => .bad
  | n + 1, c, g => fun e S => (c e S).bind fun b S1 => if b = true then (g e S1).bind fun fl S2 => match fl with
      | .nx e2 => whileN n c g e2 S2
      | .ct e2 => whileN n c g e2 S2
      | .bk e2 => .ok (.nx e2) S2
      | .rt d => .ok (.rt d) S2
    else .ok (.nx e) S1
open Classical in
noncomputable def sWhile (c : Te) (g : Sg) : Sg := fun e S => if h : ∃ n, whileN n c g e S ≠ .bad then whileN (Classical.choose h) c g e S else .bad
theorem whileN_mono {c : Te} {g : Sg} : ∀ {n m : Nat} {e : Env} {S : Store}, n ≤ m → whileN n c g e S ≠ .bad → whileN m c g e S = whileN n c g e S
  | 0, _, _, _, _, h => (h rfl).elim
  | n + 1, 0, _, _, h, _ => absurd h (Nat.not_succ_le_zero n)
  | n + 1, m + 1, e, S, hl, h => by
    unfold whileN at h ⊢
    cases hc : c e S with
    | bad => rfl
    | exc C fs S1 => rfl
    | ok b S1 =>
      simp only [hc, Out.bind_ok] at h ⊢
      by_cases hb : b = true
      · rw [if_pos hb] at h ⊢
        rw [if_pos hb]
        cases hg : g e S1 with
        | bad => rfl
        | exc C fs S2 => rfl
        | ok fl S2 =>
          simp only [hg, Out.bind_ok] at h ⊢
          cases fl with
          | nx e2 => exact whileN_mono (Nat.le_of_succ_le_succ hl) h
          | ct e2 => exact whileN_mono (Nat.le_of_succ_le_succ hl) h
          | bk e2 => rfl
          | rt d => rfl
      · rw [if_neg hb, if_neg hb]
theorem sWhile_eq {c : Te} {g : Sg} {n : Nat} {e : Env} {S : Store} (h : whileN n c g e S ≠ .bad) : sWhile c g e S = whileN n c g e S := by
  have hx : ∃ n, whileN n c g e S ≠ .bad := ⟨n, h⟩
  unfold sWhile
  rw [dif_pos hx]
  have h2 := Classical.choose_spec hx
  rcases Nat.le_total n (Classical.choose hx) with hl | hl
  · exact whileN_mono hl h
  · exact (whileN_mono hl h2).symm
theorem es_while {body : List Stmt} {tc : Te} {g : Sg} (hp : PassesOwn (model X.prog X.w) X.A X.env X.xe) (hc : ET X W c tc) (hb : ESs X W body g) : ES X W (.While c body [] pos) (sWhile tc g) := PS.by (ps_while hp hc hb) fun D' σ H ⟨en, S, ρ, rs, re, q⟩ => by
  unfold sWhile at q
  split at q
  case isFalse => exact q.elim
  case isTrue hx =>
  refine ⟨fun m σ H => ∃ e S ρ, RelS X.K H S ρ ∧ RE X.K H ρ e σ ∧ AftS X.K W H ρ (whileN m tc g e S) D', ⟨_, en, S, ρ, rs, re, q⟩, ?_⟩
  rintro m σ H ⟨e, S, ρ, rs, re, q⟩
  cases m with
  | zero => exact q.elim
  | succ n =>
    unfold whileN at q
    refine ⟨e, S, ρ, rs, re, (AftS.split (σ := σ) (RA := RB') q).imp fun b H1 ⟨b', S1, ρ1, r1, x1, eb, q1⟩ => ?_⟩
    have eb : b' = b := eb
    subst eb
    by_cases hb : b' = true
    · rw [if_pos hb] at q1 ⊢
      refine ⟨fun σ H => ∃ e S ρ, RelS X.K H S ρ ∧ RE X.K H ρ e σ ∧ AftS X.K W H ρ (whileN n tc g e S) D', fun σ' H' w => ⟨n, Nat.lt_succ_self n, w⟩, e, S1, ρ1, r1, re.mono x1, ?_⟩
      cases hg1 : g e S1 with
      | bad => rw [hg1] at q1; exact q1.elim
      | exc C fs S3 => rw [hg1] at q1; exact q1
      | ok fl S3 =>
        simp only [hg1, Out.bind_ok] at q1
        intro ρ4 H4 rs4 ex4
        have q := AftS.later ex4 q1
        cases fl with
        | nx e2 => exact fun σ4 re4 => ⟨e2, S3, ρ4, rs4, re4, q⟩
        | ct e2 => exact fun σ4 re4 => ⟨e2, S3, ρ4, rs4, re4, q⟩
        | bk e2 => exact fun σ4 re4 => q ρ4 H4 rs4 .refl σ4 re4
        | rt d => exact fun x rx => q ρ4 H4 rs4 .refl x rx
    · rw [if_neg hb] at q1 ⊢
      exact q1 ρ1 H1 r1 .refl σ (re.mono x1)

/-! ### comprehensions -/
def WX0 : WX := fun _ _ _ _ => False
theorem takesWX0 {Y : Cx} : Takes Y WX0 := fun _ _ x => by
  obtain ⟨_, _, _, _, _, _, _, _, _, _, _, _, _, _, _, _, z⟩ := x
  exact z.elim
def Out.noX {α : Type} : Out α → Out α
  | .ok a S => .ok a S
  | _ => .bad
def wipeE (e : Env) : List Nat → Env
  | [] => e
  | v :: vs => (wipeE e vs).set v none
/-- a comprehension's target: it touches the slots vs alone -/
def tTc (K : PySem.W.Frag) (vs : List Nat) (t : Tg) : TG := fun v σ H Q => ∃ d e S ρ, RelS K H S ρ ∧ RE K H ρ e σ ∧ RV K H ρ d v ∧ (match t d e S with
  | .ok e' S' => ∀ ρ' H' σ', RelS K H' S' ρ' → Ext H H' ρ ρ' → RE K H' ρ' e' σ' → wipe σ' vs = wipe σ vs → Q σ' H'
  | _ => False)
theorem wipe_nil' (σ : L2.St) : wipe σ [] = σ := rfl
theorem wipe_cons (σ : L2.St) (v : Nat) (vs : List Nat) : wipe σ (v :: vs) = (wipe σ vs).set v none := rfl
theorem wipe_set {σ : L2.St} {i : Nat} {x : Option V} : ∀ {vs : List Nat}, i ∈ vs → wipe (σ.set i x) vs = wipe σ vs
  | [], h => nomatch h
  | v :: vs, h => by
    rw [wipe_cons, wipe_cons]
    by_cases hv : i ∈ vs
    · rw [wipe_set hv]
    · have e : i = v := by
        rcases List.mem_cons.mp h with h | h
        · exact h
        · exact absurd h hv
      subst e
      have : ∀ ws : List Nat, i ∉ ws → wipe (σ.set i x) ws = (wipe σ ws).set i x := by
        intro ws
        induction ws with
        | nil => intro _; rfl
        | cons w ws ih =>
          intro hw
          rw [wipe_cons, wipe_cons, ih fun z => hw (List.mem_cons_of_mem _ z)]
          exact List.set_comm _ _ fun z => hw (by rw [z]; exact List.mem_cons_self)
      rw [this vs hv, List.set_set]
theorem wipe_wipe (σ : L2.St) : ∀ vs : List Nat, wipe (wipe σ vs) vs = wipe σ vs := by
  intro vs
  have key : ∀ (ws : List Nat) (τ : L2.St), (∀ i ∈ ws, τ[i]? = some none ∨ τ[i]? = none) → wipe τ ws = τ := by
    intro ws
    induction ws with
    | nil => intro τ _; rfl
    | cons w ws ih =>
      intro τ h
      rw [wipe_cons, ih τ fun i hi => h i (List.mem_cons_of_mem _ hi)]
      rcases h w List.mem_cons_self with h | h
      · apply List.ext_getElem?
        intro j
        by_cases e : w = j
        · subst e
          rw [List.getElem?_set_self (List.getElem?_eq_some_iff.mp h).1, h]
        · rw [List.getElem?_set_ne e]
      · exact List.set_eq_of_length_le (List.getElem?_eq_none_iff.mp h)
  refine key vs _ fun i hi => ?_
  cases e : (wipe σ vs)[i]? with
  | none => exact .inr rfl
  | some o =>
    cases o with
    | none => exact .inl rfl
    | some x => exact absurd hi (wipe_some e).2
theorem re_wipe {K : PySem.W.Frag} {H : Hp} {ρ : List Addr} {e : Env} {σ : L2.St} (r : RE K H ρ e σ) : ∀ vs : List Nat, RE K H ρ (wipeE e vs) (wipe σ vs)
  | [] => r
  | v :: vs => by
    have ih := re_wipe r vs
    rw [wipe_cons]
    unfold wipeE
    refine ⟨by simp [ih.1], fun i d hi => ?_⟩
    by_cases q : v = i
    · subst q
      have hl : v < (wipeE e vs).length := by
        have := (List.getElem?_eq_some_iff.mp hi).1
        simpa using this
      rw [List.getElem?_set_self hl] at hi
      cases hi
    · rw [List.getElem?_set_ne q] at hi
      obtain ⟨x, h1, h2⟩ := ih.2 i d hi
      exact ⟨x, by rw [List.getElem?_set_ne q]; exact h1, h2⟩
abbrev EC (Y : Cx) (vs : List Nat) (tg : Expr) (t : Tg) : Prop := PG Y tg (tTc Y.K vs t)
theorem ec_name {Y : Cx} {i : Nat} {x : Str} {vs : List Nat} (hm : i ∈ vs) (hN : Y.N.Nodup) (hi : Y.N[i]? = some x) (hx : Loc Y.env.scope x) (hf : Y.fn x = true ∨ Y.env.scope.names.lookup x = some .local := by first | exact .inl rfl | exact .inr rfl | assumption) : EC Y vs (.Name x pos) (gN i) :=
  PG.by (pg_name hN hi hx hf) fun v σ H Q ⟨d, e, S, ρ, rs, re, rv, q⟩ => q ρ H _ rs .refl (re.set i rv) (wipe_set hm)
def tTcs (K : PySem.W.Frag) (vs : List Nat) (t : Tgs) : TGs := fun xs σ H Q => ∃ ds e S ρ, RelS K H S ρ ∧ RE K H ρ e σ ∧ RVs K H ρ ds xs ∧ (match t ds e S with
  | .ok e' S' => ∀ ρ' H' σ', RelS K H' S' ρ' → Ext H H' ρ ρ' → RE K H' ρ' e' σ' → wipe σ' vs = wipe σ vs → Q σ' H'
  | _ => False)
abbrev ECs (Y : Cx) (vs : List Nat) (tg : List Expr) (t : Tgs) : Prop := PGs Y tg (tTcs Y.K vs t)
theorem ecs_nil {Y : Cx} {vs : List Nat} : ECs Y vs [] gsNil := PGs.by pgs_nil fun xs σ H Q ⟨ds, e, S, ρ, rs, re, rv, q⟩ => by
  cases ds with
  | nil => exact ⟨rv.nil_inv, q ρ H σ rs .refl re rfl⟩
  | cons d r => exact q.elim
theorem ecs_cons {Y : Cx} {vs : List Nat} {tg : Expr} {tgs : List Expr} {t : Tg} {u : Tgs} (h1 : EC Y vs tg t) (h2 : ECs Y vs tgs u) (hs : (assignEach (tg :: tgs) Y.env).map (·.2) = assign tg Y.env :: (assignEach tgs Y.env).map (·.2) := by rfl) : ECs Y vs (tg :: tgs) (gsCons t u) :=
  PGs.by (pgs_cons h1 h2 hs) fun xs σ H Q ⟨ds, e, S, ρ, rs, re, rv, q⟩ => by
    cases ds with
    | nil => exact q.elim
    | cons d r =>
      simp only [gsCons] at q
      obtain ⟨x, xs, rfl, r1, r2⟩ := rv.cons_inv
      refine ⟨x, xs, rfl, d, e, S, ρ, rs, re, r1, ?_⟩
      cases ht : t d e S with
      | ok e' S' =>
        rw [ht] at q
        intro ρ' H' σ' rs' ex re' hw
        refine ⟨r, e', S', ρ', rs', re', r2.mono ex, ?_⟩
        cases hu : u r e' S' with
        | ok e2 S2 =>
          simp only [Out.bind_ok, hu] at q
          exact fun ρ2 H2 σ2 rs2 ex2 re2 hw2 => q ρ2 H2 σ2 rs2 (ex.trans ex2) re2 (hw2.trans hw)
        | exc C fs S2 => simp only [Out.bind_ok, hu] at q
        | bad => simp only [Out.bind_ok, hu] at q
      | exc C fs S' => rw [ht] at q; exact q.elim
      | bad => rw [ht] at q; exact q.elim
theorem ec_tup {Y : Cx} {vs : List Nat} {tgs : List Expr} {k1 : Nat} {u : Tgs} {n : Nat} (hc : Y.calm = true) (h : ECs Y vs tgs u) (hn : (assignEach tgs Y.env).length = n := by rfl) (hst : (assignEach tgs Y.env).findIdx? (·.1) = none := by rfl) : EC Y vs (.Tuple tgs k1 pos) (gT n u) :=
  PG.by (pg_tup hc h hn hst) fun v σ H Q ⟨d, e, S, ρ, rs, re, rv, q⟩ => by
    cases d <;> simp only [gT] at q <;> try exact q.elim
    rename_i ds
    obtain ⟨a, xs, rfl, h1, h2⟩ := rv_tup rv
    by_cases hl : ds.length = n
    · rw [if_pos hl] at q
      exact ⟨a, xs, rfl, h1, by rw [h2.length]; exact hl, _, e, S, ρ, rs, re, h2, q⟩
    · rw [if_neg hl] at q
      exact q.elim
/-- the tests of a comprehension -/
def tYesE : Te := fun _ S => .ok true S
abbrev ETs (Y : Cx) (ifs : List Expr) (f : Te) : Prop := PTs Y ifs (tTe Y.K WX0 f)
theorem PTs.by {Y : Cx} {ifs : List Expr} {t t' : TT} (h : PTs Y ifs t) (k : ∀ σ H Q, t' σ H Q → t σ H Q) : PTs Y ifs t' := ⟨fun pins s σ H Q I q => h.run pins s σ H Q I (k σ H Q q)⟩
theorem ets_nil {Y : Cx} : ETs Y [] tYesE := PTs.by pts_nil fun σ H Q ⟨en, S, ρ, rs, re, q⟩ => q ρ H true rs .refl rfl
theorem ets_one {Y : Cx} {c : Expr} {f : Te} (h : ET Y WX0 c f) : ETs Y [c] f := pts_one h
def lcN : Nat → Nat → Src → Tg → Te → Ex → Nat → Env → Store → Out D
  | 0, i, src, _, _, _, l => fun _ S => match src.next i S with
    | some none => .ok (.loc l) S
    | _ => .bad
  | n + 1, i, src, t, tt, f, l => fun e S => match src.next i S with
    | none => .bad
    | some none => .ok (.loc l) S
    | some (some d) => (t d e S).noX.bind fun e1 S1 => (tt e1 S1).noX.bind fun b S2 => if b = true then (f e1 S2).noX.bind fun v S3 => match S3[l]? with
        | some (.lst acc) => if acc.length < sizeLine then lcN n (i + 1) src t tt f l e (S3.set l (.lst (acc ++ [v]))) else .bad
        | _ => .bad
      else lcN n (i + 1) src t tt f l e S2
/-- [f for t in it if tt], its own slots vs -/
def eLc (it : Ig) (t : Tg) (tt : Te) (f : Ex) (vs : List Nat) : Ex := fun e S => (it e S).bind fun src S1 => lcN src.fuel 0 src t tt f S1.length (wipeE e vs) (S1 ++ [.lst []])
theorem noX_ok {α : Type} {o : Out α} {a : α} {S : Store} (h : o = .ok a S) : o.noX = .ok a S := by rw [h]; rfl
theorem lc_read {it : Ig} {t : Tg} {tt : Te} {f : Ex} {vs : List Nat} (σ : L2.St) (H : Hp) (Q : VK) (h : tEv X.K W (eLc it t tt f vs) σ H Q) : tLc (tIt X.K W it) (tTc X.K vs t) (tTe X.K WX0 tt) (tEv X.K WX0 f) vs σ H Q := by
  obtain ⟨en, S, ρ, rs, re, q⟩ := h
  refine ⟨en, S, ρ, rs, re, (Aft.split (RA := fun H' ρ' src J => ItOk X.K H' ρ' src J) q).imp fun J H1 ⟨src, S1, ρ1, r1, x1, ok, q1⟩ => ?_⟩
  intro L hL
  have hLl : ρ1.length = S1.length := r1.len
  have nw : RelS X.K (upd H1 L (.lst [])) (S1 ++ [.lst []]) (ρ1 ++ [L]) := r1.push hL ⟨[], upd_same, RVs.nil⟩
  have exL : Ext H1 (upd H1 L (.lst [])) ρ1 (ρ1 ++ [L]) := Ext.push hL
  refine ⟨fun i m H' => ∃ S' ρ', RelS X.K H' S' ρ' ∧ ρ'[S1.length]? = some L ∧ Ext H1 H' ρ1 ρ' ∧ Aft X.K (WE W σ) H' ρ' (RV X.K) (lcN m i src t tt f S1.length (wipeE en vs) S') Q,
    ⟨src.fuel, _, _, nw, by rw [← hLl]; simp, exL, Aft.later exL q1⟩, ?_⟩
  rintro i m H' ⟨S', ρ', rs', hl', ex', q'⟩
  obtain ⟨go, stop⟩ := ok i H' S' ρ' rs' ex'
  cases hx : src.next i S' with
  | none => cases m <;> (unfold lcN at q'; rw [hx] at q'; exact q'.elim)
  | some o =>
    cases o with
    | none =>
      refine .inl ⟨stop hx, ?_⟩
      have rl : RV X.K H' ρ' (.loc S1.length) (.ref L) := by simp only [RV]; exact ⟨L, hl', rfl⟩
      cases m <;> (unfold lcN at q'; rw [hx] at q'; exact q' ρ' H' _ rs' .refl rl)
    | some d =>
      cases m with
      | zero => unfold lcN at q'; rw [hx] at q'; exact q'.elim
      | succ n =>
        unfold lcN at q'
        rw [hx] at q'
        dsimp only at q'
        obtain ⟨g1, g2⟩ := go d hx
        refine .inr ⟨g1, fun H => ∃ S' ρ', RelS X.K H S' ρ' ∧ ρ'[S1.length]? = some L ∧ Ext H1 H ρ1 ρ' ∧ Aft X.K (WE W σ) H ρ' (RV X.K) (lcN n (i + 1) src t tt f S1.length (wipeE en vs) S') Q, fun H2 w => ⟨n, Nat.lt_succ_self n, w⟩, fun x H2 hy => ?_⟩
        obtain ⟨rs2, ex2, rv2⟩ := g2 x H2 hy
        refine ⟨d, wipeE en vs, S', ρ', rs2, (re_wipe (re.mono x1) vs).mono (ex'.trans ex2), rv2, ?_⟩
        cases ht : t d (wipeE en vs) S' with
        | exc C fs S' => simp only [ht, Out.noX, Out.bind_bad] at q'; exact q'.elim
        | bad => simp only [ht, Out.noX, Out.bind_bad] at q'; exact q'.elim
        | ok e1 S2 =>
          simp only [ht, Out.noX, Out.bind_ok] at q'
          intro ρ3 H3 σ3 rs3 ex3 re3 hw
          refine ⟨hw.trans ?_, ?_⟩
          · have : ∀ ws : List Nat, wipe (wipe σ vs) ws = wipe (wipe σ vs) ws := fun _ => rfl
            exact wipe_wipe σ vs
          refine ⟨e1, S2, ρ3, rs3, re3, ?_⟩
          have q' := Aft.later (ex2.trans ex3) q'
          cases hb : tt e1 S2 with
          | exc C fs S' => simp only [hb, Out.noX, Out.bind_bad] at q'; exact q'.elim
          | bad => simp only [hb, Out.noX, Out.bind_bad] at q'; exact q'.elim
          | ok b S3 =>
            simp only [hb, Out.noX, Out.bind_ok] at q'
            intro ρ4 H4 b' rs4 ex4 eb
            have eb : b = b' := eb
            subst eb
            have q' := Aft.later ex4 q'
            have exA : Ext H1 H4 ρ1 ρ4 := ((ex'.trans ex2).trans ex3).trans ex4
            have hlA : ρ4[S1.length]? = some L := ex4.at (ex3.at hl')
            by_cases hbt : b = true
            · rw [if_pos hbt] at q' ⊢
              refine ⟨e1, S3, ρ4, rs4, re3.mono ex4, ?_⟩
              cases hf : f e1 S3 with
              | exc C fs S' => simp only [hf, Out.noX, Out.bind_bad] at q'; exact q'.elim
              | bad => simp only [hf, Out.noX, Out.bind_bad] at q'; exact q'.elim
              | ok v S4 =>
                simp only [hf, Out.noX, Out.bind_ok] at q'
                intro ρ5 H5 y rs5 ex5 rv5
                have q' := Aft.later ex5 q'
                cases hS : S4[S1.length]? with
                | none => rw [hS] at q'; exact q'.elim
                | some ob =>
                  rw [hS] at q'
                  cases ob <;> try exact q'.elim
                  rename_i acc
                  simp only at q'
                  have hlB := ex5.at hlA
                  obtain ⟨xs, h1, h2⟩ := lst_of rs5 hS hlB
                  by_cases hz : acc.length < sizeLine
                  · rw [if_pos hz] at q'
                    have exW : Ext H5 (upd H5 L (.lst (xs ++ [y]))) ρ5 ρ5 := Ext.write rs5 hlB
                    refine ⟨xs, h1, by rw [h2.length]; exact hz, _, ρ5, rs5.write (ob := .lst (acc ++ [v])) hlB ⟨_, upd_same, (h2.mono exW).append (RVs.one (rv5.mono exW))⟩, hlB, (exA.trans ex5).trans exW, Aft.later exW q'⟩
                  · rw [if_neg hz] at q'
                    exact q'.elim
            · rw [if_neg hbt] at q' ⊢
              exact ⟨S3, ρ4, rs4, hlA, exA, q'⟩
theorem ev_lc {elt iter : Expr} {ifs : List Expr} {scope : Scope} {own : List (Str × Nat)} {it : Ig} {t : Tg} {tt : Te} {f : Ex} (hc : X.calm = true) (hN : X.N.Nodup) (hi : EI X W tg iter it) (ok : BlkOk X.N X.env.scope scope own)
    (hg : ∀ (s : Shared) (H : Hp) (C : Addr) (cl : List (Str × Addr)) (fp : List Addr), EC (X.blk s H scope (compEnvC scope cl C X.env) fp) (own.map (·.2)) tg t) (ht : ∀ (s : Shared) (H : Hp) (C : Addr) (cl : List (Str × Addr)) (fp : List Addr), ETs (X.blk s H scope (compEnvC scope cl C X.env) fp) ifs tt)
    (he : ∀ (s : Shared) (H : Hp) (C : Addr) (cl : List (Str × Addr)) (fp : List Addr), EE (X.blk s H scope (compEnvC scope cl C X.env) fp) WX0 elt f) (hs : ∀ x, foldedSetIterable iter X.env x = pure x := by intro _; rfl) :
    EE X W (.ListComp elt [⟨tg, iter, ifs, 0⟩] scope pos) (eLc it t tt f (own.map (·.2))) := PE.by (pe_lc hc hN hi ok hg ht he hs) fun σ H Q q => lc_read σ H Q q
theorem es_setLc {i : Nat} {y : Str} {py spos : Pos} {elt iter : Expr} {ifs : List Expr} {scope : Scope} {own : List (Str × Nat)} {it : Ig} {t : Tg} {tt : Te} {f : Ex} (hc : X.calm = true) (hN : X.N.Nodup) (hy : X.N[i]? = some y) (hyl : X.env.scope.names.lookup y = some .local)
    (hsw : swapsWith (.ListComp elt [⟨tg, iter, ifs, 0⟩] scope pos) (some (.Name y py)) spos.line X.env = pure true) (hi : EI X W tg iter it) (ok : BlkOk X.N X.env.scope scope own)
    (hg : ∀ (s : Shared) (H : Hp) (C : Addr) (cl : List (Str × Addr)) (fp : List Addr), EC (X.blk s H scope (compEnvC scope cl C X.env) fp) (own.map (·.2)) tg t) (ht : ∀ (s : Shared) (H : Hp) (C : Addr) (cl : List (Str × Addr)) (fp : List Addr), ETs (X.blk s H scope (compEnvC scope cl C X.env) fp) ifs tt)
    (he : ∀ (s : Shared) (H : Hp) (C : Addr) (cl : List (Str × Addr)) (fp : List Addr), EE (X.blk s H scope (compEnvC scope cl C X.env) fp) WX0 elt f) (hs : ∀ x, foldedSetIterable iter X.env x = pure x := by intro _; rfl) :
    ES X W (.Assign [.Name y py] (.ListComp elt [⟨tg, iter, ifs, 0⟩] scope pos) spos) (sAsg (eLc it t tt f (own.map (·.2))) (gN i)) := PS.by (ps_setLc hc hN hy hyl hsw hi ok hg ht he hs) fun D' σ H ⟨en, S, ρ, rs, re, q⟩ =>
  lc_read σ H _ (tEv_st (g := fun d S1 => (gN i d en S1).bind fun e' S2 => .ok (.nx e') S2) rs re q fun x H1 v S1 ρ1 r1 e1 x1 rv q1 => q1 ρ1 H1 r1 .refl _ (e1.set i rv))
end
end Ev

/-! Ev5: defs, calls, objects. -/
namespace Ev
open PySem PySem.Spec PyProof.Rows L2

/-- a promise by a function -/
def spF (K : PySem.W.Frag) (f : Bk) : Sp := fun vs H Q E => ∃ ds S ρ, RelS K H S ρ ∧ RVs K H ρ ds vs ∧ Aft K E H ρ (RV K) (f ds S) Q
def spD (K : PySem.W.Frag) (n : Nat) (f : Bk) : Sp := fun vs H Q E => ∃ ds S ρ, ds.length = n ∧ RelS K H S ρ ∧ RVs K H ρ ds vs ∧ Aft K E H ρ (RV K) (f ds S) Q
def startE (N : Nat) (ds : List D) : Env := ds.map some ++ List.replicate (N - ds.length) none
def retOf : Fl → Store → Out D
  | .nx _, S => .ok .non S
  | .rt d, S => .ok d S
  | _, _ => .bad
/-- a def by its body -/
def fnS (N : Nat) (g : Sg) : Bk := fun ds S => (g (startE N ds) S).bind retOf
section
variable {P : Program} {w : World} {K : PySem.W.Frag} {mg : Str → Option Value} {base : Heap}
theorem re_start {H : Hp} {ρ : List Addr} {N : List Str} {ds : List D} {vs : List V} (r : RVs K H ρ ds vs) : RE K H ρ (startE N.length ds) (L2.start N vs) := by
  unfold startE L2.start
  rw [r.length]
  refine ⟨by simp [r.length], fun i d hi => ?_⟩
  by_cases h : i < ds.length
  · rw [List.getElem?_append_left (by simpa using h), List.getElem?_map] at hi
    cases e : ds[i]? with
    | none => rw [e] at hi; cases hi
    | some d' =>
      rw [e] at hi
      cases hi
      obtain ⟨x, h1, h2⟩ := r.get e
      refine ⟨x, ?_, h2⟩
      rw [List.getElem?_append_left (by rw [List.length_map, r.length]; exact h), List.getElem?_map, h1]; rfl
  · rw [List.getElem?_append_right (by simpa using Nat.le_of_not_lt h)] at hi
    rw [List.getElem?_replicate] at hi
    split at hi <;> cases hi
theorem fn_ok {x qual : Str} {params : Arguments} {body : List Stmt} {scope : Scope} {dvs : List V} {kws : List (Str × V)} {f : Addr} {fd : FuncData} {N ps : List Str} {k : Nat} {g : Sg}
    (F : FunD K x qual params body scope dvs kws f fd) (S : FnScope N ps scope)
    (hb : ∀ (cdv : Value) (A : Around) (outer : List PySem.Env) (s : Shared) (H : Hp) (E : XK), Room k (A.deeper (envOfC qual scope s.heap.objs.size f cdv)) →
      ESs (cxOf (L2.CX P w) P w K mg base N qual scope f cdv A outer s H E) (fun cls d _ H' => E cls d H') body g) : FnOk P w K mg base (L2.CX P w) (k + 1) f fd ps (spD K ps.length (fnS N.length g)) := by
  refine F.ok S (fun vs H Q E ⟨ds, S, ρ, hl, rs, rv, q⟩ => by rw [rv.length, hl]) fun cdv A outer s H vs Q E hr ⟨ds, S, ρ, hl, rs, rv, q⟩ => ?_
  refine ⟨_, hb cdv A outer s H E hr, startE N.length ds, S, ρ, rs, re_start rv, ?_⟩
  unfold fnS at q
  cases hg : g (startE N.length ds) S with
  | bad => rw [hg] at q; exact q.elim
  | exc C fs S1 => rw [hg] at q; exact fun ρ' H' d xs σ rs' ex' hd rf => q ρ' H' d xs rs' ex' hd rf
  | ok fl S1 =>
    simp only [hg, Out.bind_ok] at q
    intro ρ' H' rs' ex'
    cases fl with
    | nx e => exact fun σ re => q ρ' H' .non rs' ex' rv_non
    | rt d => exact fun y ry => q ρ' H' y rs' ex' ry
    | bk e => exact q.elim
    | ct e => exact q.elim
/-- called positionally, the defaults behind -/
theorem fn_raw {f : Addr} {fd : FuncData} {ps : List Str} {ds : List Value} {dvs : List V} {dds : List D} {k n : Nat} {fs : Bk} (F : FnOk P w K mg base (L2.CX P w) k f fd ps (spD K n fs)) (hb : Binds K fd ps ds) (hd : Vals dvs ds) (hdd : ∀ H ρ, RVs K H ρ dds dvs) :
    FnR P w K mg base (L2.CX P w) k f (spF K fun xs S => if (xs ++ dds).length = n then fs (xs ++ dds) S else .bad) :=
  (F.raw hb hd).imp fun vs H Q E ⟨xs, S, ρ, rs, rv, q⟩ => by
    dsimp only at q
    split at q
    · rename_i hl
      exact ⟨xs ++ dds, S, ρ, hl, rs, rv.append (hdd H ρ), q⟩
    · exact q.elim
/-- a global's def, called positionally -/
structure GFn (P : Program) (w : World) (K : PySem.W.Frag) (mg : Str → Option Value) (base : Heap) (x : Str) (k : Nat) (fs : Bk) : Prop where
  at_ : mg x = some (.ref (He.ga K x))
  kp : PySem.W.keepIn K (.ref (He.ga K x)) = true
  fn : FnR P w K mg base (L2.CX P w) k (He.ga K x) (spF K fs)
end
section
variable {X : Cx} {W : WX} {a b e o : Expr} {es : List Expr} {pos p apos : Pos} {fa fb : Ex} {ga : Ag} {x m : Str} {k : Nat} {fs : Bk}
/-- the callee runs, at the slots σ -/
theorem run_fnRS {f : Addr} {sp : Sp} {E : XK} {pins : List (Addr × Obj)} {σ : L2.St} {H : Hp} {s : Shared} {Q : VK} {us : List Value} {vs : List V} (F : FnR X.prog X.w X.K X.mg X.base (L2.CX X.prog X.w) k f sp) (hr : Room k X.A) (hx : PassesAt (L2.CX X.prog X.w) X σ E)
    (I : Inv X pins σ H s) (r : Vals vs us) (h : sp vs H Q E) : wpAny (model X.prog X.w) X.A (call (.ref f) us) (EP X pins σ Q) X.xe s := by
  refine wpAny_call (codeAny_mono (F X.A X.stack s H us vs Q E hr I.env0 r h) fun r s' hq => ?_)
  cases r with
  | error e => exact hx pins H s e s' I hq
  | ok fl =>
    cases fl with
    | ret u => exact I.after hq
    | next => exact False.elim hq
    | brk => exact False.elim hq
    | cont => exact False.elim hq
theorem ev_call (G : GFn X.prog X.w X.K X.mg X.base x k fs) (hr : Room k X.A) (tk : Takes X W) (hg : Gl X x) (ha : EA X W (e :: es) ga) (hdb : (x == ("__debug__" : Str)) = false := by decide)
    (he : starEach (e :: es) X.env = (false, eval e X.env) :: starEach es X.env := by rfl) (hpl : (backTo pos (starEach es X.env)).any (·.1) = false := by rfl) : EE X W (.Call (.Name x p) (e :: es) [] pos) (eCall ga fs) := by
  refine ⟨fun pins s σ H Q I ⟨en, S, ρ, rs, re, q⟩ => ?_⟩
  refine wpAny_Call_Name_kw (ld_glob I hg G.at_ ?_ hdb)
  refine PySem.W.callWith_K (h₀ := X.base) I.ok.mod.kin G.kp (thn (ha.run pos pins s σ H (fun vs H1 => spF X.K fs vs H1 Q (WE W σ)) I (tAg_then (g := fs) rs re q fun xs H1 ds S1 ρ1 r1 e1 x1 rv q1 => ⟨ds, S1, ρ1, r1, rv, q1⟩)) fun us s1 ⟨vs, H1, I1, r, q⟩ => ⟨I1.kIn, ?_⟩) he hpl
  exact run_fnRS G.fn hr (passAt tk σ) I1 r q
theorem ev_call0 (G : GFn X.prog X.w X.K X.mg X.base x k fs) (hr : Room k X.A) (tk : Takes X W) (hg : Gl X x) (hdb : (x == ("__debug__" : Str)) = false := by decide) : EE X W (.Call (.Name x p) [] [] pos) (eCall aNil fs) := by
  refine ⟨fun pins s σ H Q I ⟨en, S, ρ, rs, re, q⟩ => ?_⟩
  refine wpAny_Call_Name_kw (ld_glob I hg G.at_ ?_ hdb)
  exact PySem.W.callWith_K0 I.kIn G.kp (run_fnRS (us := []) G.fn hr (passAt tk σ) I .nil ⟨[], S, ρ, rs, RVs.nil, q⟩)

/-! objects -/
/-- e.f, an attribute of an instance of one of the classes Cs -/
def insAt (S : Store) (d : D) : Option (Nat × Str × List (Str × D)) := match d with
  | .loc l => match S[l]? with
    | some (.ins C fs) => some (l, C, fs)
    | _ => none
  | _ => none
theorem insAt_inv {K : PySem.W.Frag} {H : Hp} {ρ : List Addr} {S : Store} {d : D} {x : V} {l : Nat} {C : Str} {fs : List (Str × D)} (rs : RelS K H S ρ) (rv : RV K H ρ d x) (h : insAt S d = some (l, C, fs)) :
    ∃ a dx xs, d = .loc l ∧ ρ[l]? = some a ∧ x = .ref a ∧ S[l]? = some (.ins C fs) ∧ H a = some (.ins (He.ga K C) dx xs) ∧ RF K H ρ fs xs := by
  unfold insAt at h
  cases d <;> try cases h
  rename_i l'
  simp only at h
  cases hS : S[l']? with
  | none => rw [hS] at h; cases h
  | some ob =>
    rw [hS] at h
    cases ob <;> try cases h
    obtain ⟨a, ha, rfl⟩ := rv_loc rv
    obtain ⟨dx, xs, h1, h2⟩ := rs.obj l a _ ha hS
    exact ⟨a, dx, xs, rfl, ha, rfl, hS, h1, h2⟩
def eFld (Cs : List Str) (n : Str) (f : Ex) : Ex := fun e S => (f e S).bind fun d S1 => match insAt S1 d with
  | some (_, C, fs) => if C ∈ Cs then match fs.lookup n with
    | some v => .ok v S1
    | none => .bad
    else .bad
  | none => .bad
structure FldOk (K : PySem.W.Frag) (Cs : List Str) (n : Str) : Prop where
  ok : ∀ C ∈ Cs, Cls K (He.ga K C) ∧ NoAttr K (He.ga K C) n
theorem ev_fld {Cs : List Str} {n : Str} (T : FldOk X.K Cs n) (he : EE X W e fa) (hb : attributeBase e n X.env (eval e X.env) = eval e X.env := by rfl) : EE X W (.Attribute e n pos) (eFld Cs n fa) := PE.by (pe_fld he hb) fun σ H Q ⟨en, S, ρ, rs, re, q⟩ => by
  refine tEv_then (g := fun d S1 => match insAt S1 d with
  | some (_, C, fs) => if C ∈ Cs then match fs.lookup n with
    | some v => Out.ok v S1
    | none => Out.bad
    else Out.bad
  | none => Out.bad) rs re q fun x H1 d S1 ρ1 r1 e1 x1 rv q1 => ?_
  cases hi : insAt S1 d with
  | none => rw [hi] at q1; exact q1.elim
  | some t =>
    obtain ⟨l, C, fs⟩ := t
    rw [hi] at q1
    dsimp only at q1
    obtain ⟨a, dx, xs, rfl, h1, rfl, h2, h3, h4⟩ := insAt_inv r1 rv hi
    by_cases hC : C ∈ Cs
    · rw [if_pos hC] at q1
      cases hf : fs.lookup n with
      | none => rw [hf] at q1; exact q1.elim
      | some v =>
        rw [hf] at q1
        obtain ⟨y, hy, ry⟩ := (h4.lookup (f := n)).1 v hf
        exact ⟨a, _, dx, xs, y, rfl, h3, (T.ok C hC).1, (T.ok C hC).2, hy, q1 ρ1 H1 y r1 .refl ry⟩
    · rw [if_neg hC] at q1; exact q1.elim
/-- e.f = v -/
def sFldS (Cs : List Str) (n : Str) (fo fv : Ex) : Sg := fun e S => (fv e S).bind fun v S1 => (fo e S1).bind fun d S2 => match insAt S2 d with
  | some (l, C, fs) => if C ∈ Cs ∧ fs.length < 1000 then .ok (.nx e) (S2.set l (.ins C (putD n v fs))) else .bad
  | none => .bad
theorem es_fld {Cs : List Str} {n : Str} {v : Expr} {pos' : Pos} (T : FldOk X.K Cs n) (ho : EE X W o fa) (hv : EE X W v fb) (hs : swapsWith v (some (.Attribute o n pos')) pos.line X.env = pure false := by rfl) : ES X W (.Assign [.Attribute o n pos'] v pos) (sFldS Cs n fa fb) := PS.by (ps_fld ho hv hs) fun D' σ H ⟨en, S, ρ, rs, re, q⟩ => by
  refine tEv_st (g := fun v S1 => (fa en S1).bind fun d S2 => match insAt S2 d with
  | some (l, C, fs) => if C ∈ Cs ∧ fs.length < 1000 then Out.ok (.nx en) (S2.set l (.ins C (putD n v fs))) else Out.bad
  | none => Out.bad) rs re q fun y H1 dv S1 ρ1 r1 e1 x1 rv q1 => ?_
  refine tEv_st (g := fun d S2 => match insAt S2 d with
  | some (l, C, fs) => if C ∈ Cs ∧ fs.length < 1000 then Out.ok (.nx en) (S2.set l (.ins C (putD n dv fs))) else Out.bad
  | none => Out.bad) r1 e1 q1 fun x H2 d S2 ρ2 r2 e2 x2 rv2 q2 => ?_
  cases hi : insAt S2 d with
  | none => rw [hi] at q2; exact q2.elim
  | some t =>
    obtain ⟨l, C, fs⟩ := t
    rw [hi] at q2
    dsimp only at q2
    obtain ⟨a, dx, xs, rfl, h1, rfl, h2, h3, h4⟩ := insAt_inv r2 rv2 hi
    by_cases hC : C ∈ Cs ∧ fs.length < 1000
    · rw [if_pos hC] at q2
      have ex := Ext.write (o := .ins (He.ga X.K C) dx (putF n y xs)) r2 h1
      refine ⟨a, _, dx, xs, rfl, h3, (T.ok C hC.1).1, (T.ok C hC.1).2, by rw [h4.length]; exact hC.2, ?_⟩
      exact q2 ρ2 _ (r2.write (ob := .ins C (putD n dv fs)) h1 ⟨dx, _, upd_same, (h4.mono ex).put ((rv.mono x2).mono ex)⟩) ex σ (e2.mono ex)
    · rw [if_neg hC] at q2; exact q2.elim
/-- e.NAME, a constant of the object's class -/
def eCon (tb : List (Str × D)) (n : Str) (f : Ex) : Ex := fun e S => (f e S).bind fun d S1 => match insAt S1 d with
  | some (_, C, fs) => match tb.lookup C, fs.lookup n with
    | some v, none => .ok v S1
    | _, _ => .bad
  | none => .bad
structure ConOk (K : PySem.W.Frag) (tb : List (Str × D)) (n : Str) : Prop where
  ok : ∀ C d, tb.lookup C = some d → Cls K (He.ga K C) ∧ ∃ v u, Con K (He.ga K C) n v u ∧ ∀ H ρ, RV K H ρ d v
theorem ev_con {tb : List (Str × D)} {n : Str} (T : ConOk X.K tb n) (he : EE X W e fa) (hb : attributeBase e n X.env (eval e X.env) = eval e X.env := by rfl) : EE X W (.Attribute e n pos) (eCon tb n fa) := PE.by (pe_con he hb) fun σ H Q ⟨en, S, ρ, rs, re, q⟩ => by
  refine tEv_then (g := fun d S1 => match insAt S1 d with
  | some (_, C, fs) => match tb.lookup C, fs.lookup n with
    | some v, none => Out.ok v S1
    | _, _ => Out.bad
  | none => Out.bad) rs re q fun x H1 d S1 ρ1 r1 e1 x1 rv q1 => ?_
  cases hi : insAt S1 d with
  | none => rw [hi] at q1; exact q1.elim
  | some t =>
    obtain ⟨l, C, fs⟩ := t
    rw [hi] at q1
    dsimp only at q1
    obtain ⟨a, dx, xs, rfl, h1, rfl, h2, h3, h4⟩ := insAt_inv r1 rv hi
    split at q1
    · rename_i v e1' e2'
      obtain ⟨c, v', u, hc, hv⟩ := T.ok C v e1'
      exact ⟨a, _, dx, xs, v', u, rfl, h3, c, hc, (h4.lookup (f := n)).2 e2', q1 ρ1 H1 v' r1 .refl (hv H1 ρ1)⟩
    · exact q1.elim
/-- a class's method -/
structure MFn (P : Program) (w : World) (K : PySem.W.Frag) (mg : Str → Option Value) (base : Heap) (C m : Str) (k : Nat) (fs : Bk) : Prop where
  c : Cls K (He.ga K C)
  ex : ∃ g, Meth K (He.ga K C) m g ∧ FnR P w K mg base (L2.CX P w) k g (spF K fs)
/-- o.m(..): the method by the object's class -/
def eMeth (tb : List (Str × Bk)) (m : Str) (f : Ex) (g : Ag) : Ex := fun e S => (f e S).bind fun d S1 => match insAt S1 d with
  | some (_, C, fs) => match tb.lookup C, fs.lookup m with
    | some b, none => (g e S1).bind fun ds S2 => b (d :: ds) S2
    | _, _ => .bad
  | none => .bad
theorem ev_meth {tb : List (Str × Bk)} {pl : Sem Bool} (hT : ∀ C b, tb.lookup C = some b → MFn X.prog X.w X.K X.mg X.base C m k b) (hr : Room k X.A) (tk : Takes X W) (ho : EE X W o fa) (ha : EA X W (e :: es) ga)
    (hst : starEach (e :: es) X.env = (false, eval e X.env) :: starEach es X.env := by rfl) (hpl : (backTo pos (starEach es X.env)).any (·.1) = false := by rfl)
    (ht : eval (.Call (.Attribute o m apos) (e :: es) [] pos) X.env = (do
      let ov ← eval o X.env
      standAt apos.atName
      let (f, first) ← holding [ov] (getMethod ov m pl)
      callWith pos f first (backTo pos (starEach (e :: es) X.env)) (backToKw pos (keywordEach [] X.env))) := by rfl) : EE X W (.Call (.Attribute o m apos) (e :: es) [] pos) (eMeth tb m fa ga) := by
  refine ⟨fun pins s σ H Q I ⟨en, S, ρ, rs, re, q⟩ => ?_⟩
  refine PySem.W.methodCall_KW (pl := pl) (thn (ho.run pins s σ H (fun x H1 => ∃ d S1 ρ1, RelS X.K H1 S1 ρ1 ∧ RE X.K H1 ρ1 en σ ∧ RV X.K H1 ρ1 d x ∧ Aft X.K (WE W σ) H1 ρ1 (RV X.K) (match insAt S1 d with
  | some (_, C, fs) => match tb.lookup C, fs.lookup m with
    | some b, none => (ga en S1).bind fun ds S2 => b (d :: ds) S2
    | _, _ => .bad
  | none => .bad) Q) I (tEv_then (g := fun d S1 => match insAt S1 d with
  | some (_, C, fs) => match tb.lookup C, fs.lookup m with
    | some b, none => (ga en S1).bind fun ds S2 => b (d :: ds) S2
    | _, _ => Out.bad
  | none => Out.bad) rs re q fun x H1 d S1 ρ1 r1 e1 x1 rv q1 => ⟨d, S1, ρ1, r1, e1, rv, q1⟩)) fun u s1 ⟨x, H1, I1, rx, d, S1, ρ1, r1, e1, rv, q1⟩ => ?_) ht
  cases hi : insAt S1 d with
  | none => rw [hi] at q1; exact q1.elim
  | some t =>
    obtain ⟨l, C, fs⟩ := t
    rw [hi] at q1
    dsimp only at q1
    obtain ⟨a, dx, xs, rfl, h1, rfl, h2, h3, h4⟩ := insAt_inv r1 rv hi
    split at q1
    · rename_i b e1' e2'
      obtain ⟨c, g, hm, F⟩ := hT C b e1'
      obtain rfl : u = Value.ref a := rx
      refine getmeth_ok I1 h3 c hm ((h4.lookup (f := m)).2 e2') ?_
      refine PySem.W.callWith_K (first := [.ref a]) (h₀ := X.base) I.ok.mod.kin hm.kp (thn (ha.run pos pins s1 σ H1 (fun vs H2 => spF X.K b (.ref a :: vs) H2 Q (WE W σ)) I1 (tAg_then (g := fun ds S2 => b (.loc l :: ds) S2) r1 e1 q1 fun vs H2 ds S2 ρ2 r2 e2 x2 rv2 q2 => ⟨.loc l :: ds, S2, ρ2, r2, RVs.cons (rv.mono x2) rv2, q2⟩)) fun us s2 ⟨vs, H2, I2, r, q2⟩ => ⟨I2.kIn, ?_⟩) hst hpl
      exact run_fnRS (us := .ref a :: us) (vs := .ref a :: vs) F hr (passAt tk σ) I2 (.cons rfl r) q2
    · exact q1.elim
theorem ev_meth0 {tb : List (Str × Bk)} {pl : Sem Bool} (hT : ∀ C b, tb.lookup C = some b → MFn X.prog X.w X.K X.mg X.base C m k b) (hr : Room k X.A) (tk : Takes X W) (ho : EE X W o fa)
    (ht : eval (.Call (.Attribute o m apos) [] [] pos) X.env = (do
      let ov ← eval o X.env
      standAt apos.atName
      let (f, first) ← holding [ov] (getMethod ov m pl)
      callWith pos f first (backTo pos (starEach [] X.env)) (backToKw pos (keywordEach [] X.env))) := by rfl) : EE X W (.Call (.Attribute o m apos) [] [] pos) (eMeth tb m fa aNil) := by
  refine ⟨fun pins s σ H Q I ⟨en, S, ρ, rs, re, q⟩ => ?_⟩
  refine PySem.W.methodCall_KW (pl := pl) (thn (ho.run pins s σ H (fun x H1 => ∃ d S1 ρ1, RelS X.K H1 S1 ρ1 ∧ RE X.K H1 ρ1 en σ ∧ RV X.K H1 ρ1 d x ∧ Aft X.K (WE W σ) H1 ρ1 (RV X.K) (match insAt S1 d with
  | some (_, C, fs) => match tb.lookup C, fs.lookup m with
    | some b, none => (aNil en S1).bind fun ds S2 => b (d :: ds) S2
    | _, _ => .bad
  | none => .bad) Q) I (tEv_then (g := fun d S1 => match insAt S1 d with
  | some (_, C, fs) => match tb.lookup C, fs.lookup m with
    | some b, none => (aNil en S1).bind fun ds S2 => b (d :: ds) S2
    | _, _ => Out.bad
  | none => Out.bad) rs re q fun x H1 d S1 ρ1 r1 e1 x1 rv q1 => ⟨d, S1, ρ1, r1, e1, rv, q1⟩)) fun u s1 ⟨x, H1, I1, rx, d, S1, ρ1, r1, e1, rv, q1⟩ => ?_) ht
  cases hi : insAt S1 d with
  | none => rw [hi] at q1; exact q1.elim
  | some t =>
    obtain ⟨l, C, fs⟩ := t
    rw [hi] at q1
    dsimp only at q1
    obtain ⟨a, dx, xs, rfl, h1, rfl, h2, h3, h4⟩ := insAt_inv r1 rv hi
    split at q1
    · rename_i b e1' e2'
      obtain ⟨c, g, hm, F⟩ := hT C b e1'
      obtain rfl : u = Value.ref a := rx
      refine getmeth_ok I1 h3 c hm ((h4.lookup (f := m)).2 e2') ?_
      exact PySem.W.callWith_K0 (first := [.ref a]) I1.kIn hm.kp (run_fnRS (us := [.ref a]) (vs := [.ref a]) F hr (passAt tk σ) I1 (.cons rfl .nil) ⟨[.loc l], S1, ρ1, r1, RVs.one rv, q1⟩)
    · exact q1.elim
/-- C(..): a new instance, then __init__ -/
def bMake (C : Str) (b : Bk) : Bk := fun ds S => (b (.loc S.length :: ds) (S ++ [.ins C []])).bind fun r S1 => match r with
  | .non => .ok (.loc S.length) S1
  | _ => .bad
structure CFn (P : Program) (w : World) (K : PySem.W.Frag) (mg : Str → Option Value) (base : Heap) (C : Str) (k : Nat) (fs : Bk) : Prop where
  at_ : mg C = some (.ref (He.ga K C))
  ex : ∃ g, Mk K (He.ga K C) g ∧ FnR P w K mg base (L2.CX P w) k g (spF K fs)
theorem run_makeRS {C f : Addr} {sp : Sp} {E : XK} {pins : List (Addr × Obj)} {σ : L2.St} {H : Hp} {s : Shared} {Q : VK} {us : List Value} {vs : List V} (M : Mk X.K C f) (F : FnR X.prog X.w X.K X.mg X.base (L2.CX X.prog X.w) k f sp) (hr : Room (k + 1) X.A)
    (hx : PassesAt (L2.CX X.prog X.w) X σ E) (I : Inv X pins σ H s) (r : Vals vs us)
    (h : ∀ x dx, H x = none → H dx = none → dx ≠ x → sp (.ref x :: vs) (upd (upd H dx (.own x)) x (.ins C dx [])) (fun v H2 => v = .non ∧ Q (.ref x) H2) E) :
    wpAny (model X.prog X.w) X.A (call (.ref C) us) (EP X pins σ Q) X.xe s := by
  have hq := h (s.heap.objs.size + 1) s.heap.objs.size (I.hok.fresh (Nat.le_succ _)) (I.hok.fresh (Nat.le_refl _)) (Nat.ne_of_lt (Nat.lt_succ_self _))
  have I2 := Inv.made (C := C) I
  have r2 : Vals (V.ref (s.heap.objs.size + 1) :: vs) (Value.ref (s.heap.objs.size + 1) :: us) := .cons rfl r
  refine wpAny_call (make_map (f := f) I.kIn M.makes M.init (beq_iff_eq.mp M.fn) (codeAny_mono (F _ X.stack _ _ (Value.ref (s.heap.objs.size + 1) :: us) _ _ E (hr.make C us [])
    (I2.env0.make C us []) r2 hq) fun r s' hq' => ?_))
  cases r with
  | error e => exact hx pins _ _ e s' I2 hq'
  | ok fl =>
    cases fl with
    | ret u =>
      obtain ⟨v, H', I3, rv, ev, q3⟩ := I2.after hq'
      subst ev
      exact ⟨rv, ⟨V.ref (s.heap.objs.size + 1), H', I3, rfl, q3⟩⟩
    | next => exact False.elim hq'
    | brk => exact False.elim hq'
    | cont => exact False.elim hq'
theorem make_read {C : Str} {H1 : Hp} {ds : List D} {vs : List V} {S1 : Store} {ρ1 : List Addr} {Q : VK} {E : XK} (r1 : RelS X.K H1 S1 ρ1) (rv : RVs X.K H1 ρ1 ds vs) (q : Aft X.K E H1 ρ1 (RV X.K) (bMake C fs ds S1) Q) (z dx : Addr) (hz : H1 z = none) (hdx : H1 dx = none) (ne : dx ≠ z) :
    spF X.K fs (.ref z :: vs) (upd (upd H1 dx (.own z)) z (.ins (He.ga X.K C) dx [])) (fun v H2 => v = .non ∧ Q (.ref z) H2) E := by
  have hz1 : (upd H1 dx (.own z)) z = none := by rw [upd_ne (Ne.symm ne)]; exact hz
  have r2 : RelS X.K (upd H1 dx (.own z)) S1 ρ1 := r1.upd_new hdx
  have x2 : Ext H1 (upd H1 dx (.own z)) ρ1 ρ1 := Ext.upd_new hdx
  have r3 : RelS X.K (upd (upd H1 dx (.own z)) z (.ins (He.ga X.K C) dx [])) (S1 ++ [.ins C []]) (ρ1 ++ [z]) := r2.push hz1 ⟨dx, [], upd_same, RF.nil⟩
  have x3 : Ext (upd H1 dx (.own z)) (upd (upd H1 dx (.own z)) z (.ins (He.ga X.K C) dx [])) ρ1 (ρ1 ++ [z]) := Ext.push hz1
  have hl : (ρ1 ++ [z])[S1.length]? = some z := by rw [← r1.len]; simp
  refine ⟨.loc S1.length :: ds, _, _, r3, RVs.cons (by simp only [RV]; exact ⟨z, hl, rfl⟩) ((rv.mono x2).mono x3), ?_⟩
  unfold bMake at q
  have q := Aft.later (x2.trans x3) q
  cases hf : fs (.loc S1.length :: ds) (S1 ++ [.ins C []]) with
  | bad => rw [hf] at q; exact q.elim
  | exc C' fs' S' => rw [hf] at q; exact q
  | ok v S' =>
    rw [hf] at q
    intro ρ' H' y rs' ex' ry
    cases v <;> try exact q.elim
    simp only [RV] at ry
    subst ry
    exact ⟨rfl, q ρ' H' (.ref z) rs' ex' (by simp only [RV]; exact ⟨z, ex'.at hl, rfl⟩)⟩
theorem ev_make {C : Str} (G : CFn X.prog X.w X.K X.mg X.base C k fs) (hr : Room (k + 1) X.A) (tk : Takes X W) (hg : Gl X C) (ha : EA X W (e :: es) ga) (hdb : (C == ("__debug__" : Str)) = false := by decide)
    (he : starEach (e :: es) X.env = (false, eval e X.env) :: starEach es X.env := by rfl) (hpl : (backTo pos (starEach es X.env)).any (·.1) = false := by rfl) : EE X W (.Call (.Name C p) (e :: es) [] pos) (eCall ga (bMake C fs)) := by
  obtain ⟨mg, g, M, F⟩ := G
  refine ⟨fun pins s σ H Q I ⟨en, S, ρ, rs, re, q⟩ => ?_⟩
  refine wpAny_Call_Name_kw (ld_glob I hg mg ?_ hdb)
  refine PySem.W.callWith_K (h₀ := X.base) I.ok.mod.kin M.kp (thn (ha.run pos pins s σ H (fun vs H1 => ∃ ds S1 ρ1, RelS X.K H1 S1 ρ1 ∧ RVs X.K H1 ρ1 ds vs ∧ Aft X.K (WE W σ) H1 ρ1 (RV X.K) (bMake C fs ds S1) Q) I (tAg_then (g := bMake C fs) rs re q fun xs H1 ds S1 ρ1 r1 e1 x1 rv q1 => ⟨ds, S1, ρ1, r1, rv, q1⟩)) fun us s1 ⟨vs, H1, I1, r, ds, S1, ρ1, r1, rv, q1⟩ => ⟨I1.kIn, ?_⟩) he hpl
  exact run_makeRS M F hr (passAt tk σ) I1 r fun z dx hz hdx ne => make_read r1 rv q1 z dx hz hdx ne
theorem ev_make0 {C : Str} (G : CFn X.prog X.w X.K X.mg X.base C k fs) (hr : Room (k + 1) X.A) (tk : Takes X W) (hg : Gl X C) (hdb : (C == ("__debug__" : Str)) = false := by decide) : EE X W (.Call (.Name C p) [] [] pos) (eCall aNil (bMake C fs)) := by
  obtain ⟨mg, g, M, F⟩ := G
  refine ⟨fun pins s σ H Q I ⟨en, S, ρ, rs, re, q⟩ => ?_⟩
  refine wpAny_Call_Name_kw (ld_glob I hg mg ?_ hdb)
  exact PySem.W.callWith_K0 I.kIn M.kp (run_makeRS (us := []) M F hr (passAt tk σ) I .nil fun z dx hz hdx ne => make_read rs RVs.nil q z dx hz hdx ne)
end
end Ev

/-! Ev6: own exceptions with one attribute. -/
namespace Ev
open PySem PySem.Spec PyProof.Rows L2

/-! ### made -/
/-- a base of own exceptions -/
structure XB (newId : String) (bmB : List Value) : Prop where
  eb : ∃ B initId, ExcBaseFacts B newId initId bmB
  pass : ∀ self : Value, refuseLoop self "__setattr__" bmB = pure ()
  ob : bmB.contains (.type "object") = true
theorem xb_VE : XB "ValueError.__new__" [.type "ValueError", .type "Exception", .type "BaseException", .type "object"] := ⟨⟨_, _, F.excBase_ValueError⟩, F.store_ValueError.passes, by decide +kernel⟩
theorem xb_LE : XB "LookupError.__new__" [.type "LookupError", .type "Exception", .type "BaseException", .type "object"] := ⟨⟨_, _, F.excBase_LookupError⟩, F.store_LookupError.passes, by decide +kernel⟩
theorem xb_OE : XB "OverflowError.__new__" [.type "OverflowError", .type "ArithmeticError", .type "Exception", .type "BaseException", .type "object"] := ⟨⟨_, _, F.excBase_OverflowError⟩, F.store_OverflowError.passes, by decide +kernel⟩
theorem xb_RE : XB "RuntimeError.__new__" [.type "RuntimeError", .type "Exception", .type "BaseException", .type "object"] := ⟨⟨_, _, F.excBase_RuntimeError⟩, F.store_RuntimeError.passes, by decide +kernel⟩

section
open PySem.W PySem.Calls PySem.HandSPX
open Builtin Builtin.ObjectAttr
variable {prog : Program} {w : World} {A : Around} {E : Value → Shared → Prop} {R : Result → Shared → Prop} {hp : Heap} {g : Array GenState} {d : Drawn} {t : Nat} {os : OsState}
/-- self.f = v on an exception without a dict, any base -/
theorem osa_new {K : Frag} {name : Str} {tk : Tok} {v : Value} {x C : Addr} {fv : Array Value} {newId : String} {bmB : List Value} (B : XB newId bmB)
    (X : K.In hp) (hx : hp.get? x = some { cls := .ref C, data := .fields fv }) (ho : excOver K C bmB = true) (hh : hasDictIn K C = true) (ha : findIn K (.ref C) name = some none)
    (hq : ∀ h' tk' dx, (∀ b o, b ≠ x → hp.get? b = some o → h'.get? b = some o) → hp.objs.size ≤ dx → dx ≠ x → h'.get? x = some { cls := .ref C, dict := some dx, data := .fields fv } →
      h'.Ns1 dx (fun y => if y = name then some v else none) → R (.ok (.ret .none)) ⟨h', g, d, tk', os⟩) :
    codeAny (model prog w) A (.call (.builtin "object.__setattr__") ⟨[.ref x, .str name tk, v], []⟩) R ⟨hp, g, d, t, os⟩ := by
  unfold excOver at ho
  unfold hasDictIn at hh
  cases hcd : clsIn K C with
  | none => rw [hcd] at ho; cases ho
  | some cd =>
  rw [hcd] at ho hh
  have hh : cd.hasDict = true := hh
  have hm : excTail bmB cd.mro = true := by
    have ho : (match cd.mro with | .ref C' :: bm => C' == C && excTail bmB bm | _ => false) = true := ho
    split at ho
    · rename_i C' bm e
      rw [e]
      exact (Bool.and_eq_true_iff.mp ho).2
    · cases ho
  have I : InstAt hp x { cls := .ref C, data := .fields fv } C none := ⟨hx, rfl, rfl, trivial⟩
  have SF := F.store_object
  have hob : cd.mro.contains (.type "object") = true := (excTail_contains "object" _ hm).trans B.ob
  have ne : cd.mro.isEmpty = false := by
    cases e : cd.mro with
    | nil => rw [e] at hob; cases hob
    | cons a r => rfl
  have hxs : x ≠ hp.objs.size := Nat.ne_of_lt (Heap.lt_size hx)
  have sub : Looks (model prog w) hp (isInstance (.ref x) (.type "object")) true := I.type.andThen (looks_mroIn X (by unfold mroIn; rw [hcd, Option.bind_some, if_neg (by rw [ne]; decide), hob]))
  refine codeAny_call_builtin SF.slot.plain SF.entry (@check_slot (model prog w) _ _ ⟨hp, g, d, t, os⟩ "object.__setattr__" "object" "__setattr__" (.ref x) [.str name tk, v] [] _ SF.kind SF.split sub (SF.args (.ref x) (.str name tk) v) ?_)
  have hmr : Looks (model prog w) hp (mroOf (.ref C)) cd.mro := (looks_clsIn X hcd).andThen .now
  have L3 : Looks (model prog w) hp (storeTaker? none) none := .now
  have hcls : Looks (model prog w) hp (classData C) cd := looks_clsIn X hcd
  rw [osa_eq, refuse_eq]
  refine wpAny_bind (wpAny_bind (I.type.at (wpAny_bind (hmr.at ?_))))
  rw [excTail_pass _ (B.pass _) _ hm]
  refine wpAny_pure (wpAny_bind (I.type.at (wpAny_bind ((looks_findIn X ha).at (wpAny_bind (L3.at ?_))))))
  show wpAny _ _ (storeInOwnDict (.ref x) (.ref C) (.str name tk) name v false) _ _ _
  obtain ⟨nm, bs, mro, ns, qn, hd, sn, sb, ab, col, del⟩ := cd
  dsimp only at hh
  subst hh
  unfold storeInOwnDict ownDictForStores
  repeat (first | with_reducible refine store_in_new ?_ ?_ | with_reducible refine wpAny_loadPart_at hx ?_ | with_reducible refine hcls.at ?_ | wp_step)
  · exact ⟨_, #[], _, (Heap.get?_update_ne _ _ _ _ hxs.symm).trans (Heap.get?_push_at rfl rfl), rfl, fun e he => absurd he (by simp), fun _ => rfl⟩
  · intro h' tk' hn' hs
    have hx₁ : (hp.push { cls := .type "dict", data := .dict #[] }).get? x = some { cls := .ref C, data := .fields fv } := Heap.get?_push_of_some _ hx
    refine hq h' tk' hp.objs.size (fun b o hb ho => ?_) (Nat.le_refl _) hxs.symm ?_ hn'
    · exact (hs.2 b (Nat.ne_of_lt (Heap.lt_size ho))).trans ((Heap.get?_update_ne _ _ _ _ hb).trans (Heap.get?_push_of_some _ ho))
    · exact (hs.2 x hxs).trans (Heap.get?_update_self _ hx₁ rfl)
end

/-! ### its text -/
section
variable (f : Str) (p1 p2 q1 q2 q3 q4 : Pos)
def xA : Arguments := { posonlyargs := [], args := [{ arg := "self", annotation := none, pos := p1 }, { arg := f, annotation := none, pos := p2 }], vararg := none, kwonlyargs := [], kw_defaults := [], kwarg := none, defaults := [] }
def xBd : List Stmt := [.Assign [.Attribute (.Name "self" q1) f q2] (.Name f q3) q4]
def xSc : Scope := { kind := .function, names := [(PySem.Str.ofString "self", .local), (f, .local)], isGenerator := false, isCoroutine := false, more := [] }
end
/-- its binding: by rfl at a given f -/
def XBi (f : Str) : Prop := ∀ (qual : Str) (p1 p2 q1 q2 q3 q4 : Pos) (kV doc pm : Value) (an : Option Addr) (cdv ct : Value) (u v : Value), bindArgs (PySem.W.fnOf "__init__" qual (xA f p1 p2) (xBd f q1 q2 q3 q4) (xSc f) .none kV doc pm an cdv ct) ⟨[u, v], []⟩ = pure [(("self" : Str), u), (f, v)]
theorem xbi_row : XBi "row" := fun _ _ _ _ _ _ _ _ _ _ _ _ _ _ _ => rfl
/-- what the written part says of the class x (its attribute f, over newId's base) and of its __init__ -/
structure XTxt (K : PySem.W.Frag) (mg : Str → Option Value) (x f qual : Str) (newId : String) (bmB : List Value) : Prop where
  B : XB newId bmB
  gC : mg x = some (.ref (He.ga K x))
  ini : PySem.W.excInitIn K (He.ga K x) bmB newId = true
  ov : PySem.W.excOver K (He.ga K x) bmB = true
  hdC : PySem.W.hasDictIn K (He.ga K x) = true
  sa : PySem.W.findIn K (.ref (He.ga K x)) "__setattr__" = some (some (.builtin "object.__setattr__"))
  ga : PySem.W.findIn K (.ref (He.ga K x)) "__getattribute__" = some (some (.builtin "BaseException.__getattribute__"))
  gg : PySem.W.findIn K (.ref (He.ga K x)) "__getattr__" = some none
  noN : PySem.W.findIn K (.ref (He.ga K x)) f = some none
  iC : PySem.W.findIn K (.ref (He.ga K x)) "__init__" = some (some (.ref (He.ma K (He.ga K x) "__init__")))
  tC : PySem.W.typeIn K (.ref (He.ma K (He.ga K x) "__init__")) = some (.type "function")
  kC : PySem.W.keepIn K (.ref (He.ga K x)) = true
  exC : PySem.W.subIn K (.ref (He.ga K x)) (.type "BaseException") = some true
  tyC : PySem.W.typeIn K (.ref (He.ga K x)) = some (.type "type")
  bi : XBi f
  nself : (f == ("self" : Str)) = false
  ndbg : (f == ("__debug__" : Str)) = false
  fn : ∃ (fd : FuncData) (p1 p2 q1 q2 q3 q4 : Pos), FunD K "__init__" qual (xA f p1 p2) (xBd f q1 q2 q3 q4) (xSc f) [] [] (He.ma K (He.ga K x) "__init__") fd
section
open PySem.W PySem.Calls PySem.HandSPX
variable {prog : Program} {w : World} {A : Around} {E : Value → Shared → Prop} {R : Result → Shared → Prop} {s : Shared} {K : Frag} {mg : Str → Option Value} {x f qual : Str} {newId : String} {bmB : List Value}
theorem ldC {M : Model} {s : Shared} {name : Str} {scope : Scope} {L a : Addr} {cd : Value} {m : Str → Option Value} {x : Str} {pos : Pos} {v : Value} {Q : Value → Shared → Prop} {A : Around} {E : Value → Shared → Prop} (hn : s.heap.Ns L m) (hv : m x = some v) (h : Q v s)
    (hk : scope.kind = .function) (hl : (envOfC name scope L a cd).kindOf x = some .local) (hd : (x == ("__debug__" : Str)) = false) :
    wpAny M A (eval (.Name x pos) (envOfC name scope L a cd)) Q E s := wpAny_Name (wpAny_loadName_local hk hl hn hv h) hd
structure InitEnd (h h' : Heap) (e C dx t1 : Addr) (f : Str) (v : Value) : Prop where
  keep : ∀ b o, b ≠ e → h.get? b = some o → h'.get? b = some o
  obj : h'.get? e = some { cls := .ref C, dict := some dx, data := .fields #[.ref t1, .none, .none, .none, .bool false, .none] }
  dbig : h.objs.size ≤ dx
  dne : dx ≠ e
  ns : h'.Ns1 dx (fun y => if y = f then some v else none)
structure OwnMade (h h' : Heap) (e C d : Addr) (f : Str) (v : Value) : Prop where
  keep : ∀ b o, h.get? b = some o → h'.get? b = some o
  new : h.objs.size ≤ e
  obj : ∃ oe vs, h'.get? e = some oe ∧ oe.cls = .ref C ∧ oe.dict = some d ∧ oe.data = .fields vs ∧ vs[1]? = some .none
  dbig : h.objs.size ≤ d
  dne : d ≠ e
  ns : h'.Ns1 d (fun y => if y = f then some v else none)
theorem x_init (T : XTxt K mg x f qual newId bmB) {e t0 : Addr} {v : Value} (X : K.In s.heap) (hlim : s.heap.NoLimit) (hx : s.heap.get? e = some (excO (He.ga K x) t0)) (hroom : A.depth < recursionLimit)
    (hq : ∀ h' tk dx, InitEnd s.heap h' e (He.ga K x) dx t0 f v → R (.ok (.ret .none)) { s with heap := h', toks := tk }) :
    codeAny (model prog w) A (.call (.ref (He.ma K (He.ga K x) "__init__")) ⟨[.ref e, v], []⟩) R s := by
  obtain ⟨fd, p1, p2, q1, q2, q3, q4, ⟨oc, od, dV, kV, doc, pm, an, cdv, ct, osl, rfl, ho, hcd, hD, _⟩, _⟩ := T.fn
  obtain rfl : dV = .none := by
    rcases hD with ⟨_, e⟩ | ⟨e, _⟩
    · exact e
    · exact absurd rfl e
  have hfs : (("self" : Str) == f) = false := by have := T.nself; rw [beq_eq_false_iff_ne] at this ⊢; exact this.symm
  have hfs' : f ≠ ("self" : Str) := beq_eq_false_iff_ne.mp T.nself
  refine Att.call_fn (binds := [("self", .ref e), (f, v)]) X hlim ho hcd hroom (BindsTo.of_eq (T.bi _ _ _ _ _ _ _ _ _ _ _ _ _ _ _)) ?_ (fun s₁ IC => ?_) rfl rfl rfl
  · have h1 : List.lookup ("self" : Str) [(PySem.Str.ofString "self", NameKind.local), (f, .local)] = some .local := by
      rw [show PySem.Str.ofString "self" = ("self" : Str) from rfl]; simp [List.lookup]
    have h2 : List.lookup f [(PySem.Str.ofString "self", NameKind.local), (f, .local)] = some .local := by
      rw [show PySem.Str.ofString "self" = ("self" : Str) from rfl]; simp [List.lookup, T.nself]
    simp only [List.all_cons, List.all_nil, xSc, h1, h2]
    rfl
  obtain ⟨h₁, tk₁, rfl⟩ := IC.toInCall.same
  have k : ∀ b o, s.heap.get? b = some o → h₁.get? b = some o := IC.toInCall.keep
  have hn := IC.toInCall.ns
  have X₁ : K.In h₁ := X.keeps k
  have hx₁ := k _ _ hx
  have kl1 : (envOfC qual (xSc f) s.heap.objs.size (He.ma K (He.ga K x) "__init__") cdv).kindOf "self" = some .local := by
    show List.lookup ("self" : Str) (xSc f).names = some .local
    unfold xSc
    rw [show PySem.Str.ofString "self" = ("self" : Str) from rfl]; simp [List.lookup]
  have kl2 : (envOfC qual (xSc f) s.heap.objs.size (He.ma K (He.ga K x) "__init__") cdv).kindOf f = some .local := by
    show List.lookup f (xSc f).names = some .local
    unfold xSc
    rw [show PySem.Str.ofString "self" = ("self" : Str) from rfl]; simp [List.lookup, T.nself]
  show wpAny _ _ (execs _ _) _ _ _
  refine wpAny_execs_cons (plainObj_wpAny_Assign_Attribute ?_)
  have b1 : (bindL (envOfC qual (xSc f) s.heap.objs.size (He.ma K (He.ga K x) "__init__") cdv).kindOf [("self", Value.ref e), (f, v)] fun _ => none) f = some v := by
    simp only [bindL, kl1, kl2]
    simp
  have b2 : (bindL (envOfC qual (xSc f) s.heap.objs.size (He.ma K (He.ga K x) "__init__") cdv).kindOf [("self", Value.ref e), (f, v)] fun _ => none) "self" = some (.ref e) := by
    simp only [bindL, kl1, kl2]
    simp [Ne.symm hfs']
  refine ldC hn b1 (ldC hn b2 ?_ rfl kl1 (by decide)) rfl kl2 T.ndbg
  refine set_plain X₁ (ox := excO (He.ga K x) t0) (od := none) ⟨hx₁, rfl, rfl, trivial⟩ T.sa ?_
  refine osa_new T.B X₁ hx₁ T.ov T.hdC T.noN (fun h₃ tk₃ dx k₃ dn dne hx₃ hn₃ => ?_)
  show wpAny _ _ (execs _ _) _ _ _
  have z : s.heap.objs.size < h₁.objs.size := hn.lt
  exact wpAny_execs_nil (hq h₃ tk₃ dx ⟨fun b o hb e => k₃ b o hb (k b o e), hx₃, Nat.le_of_lt (Nat.lt_of_lt_of_le z dn), dne, hn₃⟩)
theorem x_made (T : XTxt K mg x f qual newId bmB) {v : Value} (X : K.In s.heap) (hlim : s.heap.NoLimit) (hroom : A.depth + 1 < recursionLimit)
    (hq : ∀ h' tk e d, OwnMade s.heap h' e (He.ga K x) d f v → R (.ok (.ret (.ref e))) { s with heap := h', toks := tk }) :
    codeAny (model prog w) A (.call (.ref (He.ga K x)) ⟨[v], []⟩) R s := by
  obtain ⟨hp, g, dr, tk, os⟩ := s
  obtain ⟨nm, N, qn, bs, bm, hdct, sn, sub, ab, col, dd, k0, k1, k2, k3, k5, hC, hT⟩ := excInit_of X T.ini
  obtain ⟨B, initId, EB⟩ := T.B.eb
  have k : ∀ b o, hp.get? b = some o → ((hp.push (kdv_tup [v])).push (excO (He.ga K x) hp.objs.size)).get? b = some o := fun b o e => Heap.get?_push_of_some _ (Heap.get?_push_of_some _ e)
  have hget : ((hp.push (kdv_tup [v])).push (excO (He.ga K x) hp.objs.size)).get? (hp.objs.size + 1) = some (excO (He.ga K x) hp.objs.size) := by heap_get
  refine call_own EB hT hC (looks_findIn X T.iC) (fun self => bind_fn X self T.tC) (by show 1 ≤ sizeLine; rw [sizeLine_eq]; exact (by decide : 1 ≤ 16777216)) ?_
  refine x_init (s := ⟨(hp.push (kdv_tup [v])).push (excO (He.ga K x) hp.objs.size), g, dr, tk, os⟩) T (X.keeps k) (hlim.keeps k) hget ?_ fun h' tk' dx ⟨k', hx, dn, dne, hns⟩ => ?_
  · show A.depth + 1 < recursionLimit
    exact hroom
  · have old : ∀ b o, hp.get? b = some o → h'.get? b = some o := fun b o e => k' b o (Nat.ne_of_lt (Nat.lt_succ_of_lt (Heap.lt_size e))) (k b o e)
    have z : hp.objs.size + 1 + 1 ≤ dx := by
      first
        | (simpa only [Heap.size_push] using dn)
        | exact dn
        | (have q := dn; rw [Heap.size_push, Heap.size_push] at q; exact q)
    exact ⟨rfl, hq h' tk' (hp.objs.size + 1) dx ⟨old, Nat.le_succ _, ⟨_, _, hx, rfl, rfl, rfl, rfl⟩, Nat.le_trans (Nat.le_trans (Nat.le_succ _) (Nat.le_succ _)) z, dne, hns⟩⟩
end

section
variable {X : Cx} {W : WX} {a e : Expr} {pos p : Pos} {fa : Ex} {x f : Str}
theorem relO_one {f : Str} {v : V} {v' : Value} (r : RelV v v') (g : Str) : RelO (List.lookup g [(f, v)]) (if g = f then some v' else none) := by
  by_cases hw : g = f
  · subst hw
    rw [if_pos rfl]
    have q : List.lookup g [(g, v)] = some v := by simp [List.lookup]
    rw [q]
    exact r
  · rw [if_neg hw]
    have qw : (g == f) = false := by simpa using hw
    have q2 : List.lookup g [(f, v)] = none := by simp [List.lookup, qw]
    rw [q2]
    trivial
/-- X(v): what stands behind it: the state without the exception, its dict laid -/
theorem made_inv {pins : List (Addr × Obj)} {σ : L2.St} {H1 : Hp} {s1 : Shared} {h' : Heap} {tk' : Nat} {e d C : Addr} {f : Str} {v : V} {v' : Value} (I1 : Inv X pins σ H1 s1) (rv : RelV v v') (M : OwnMade s1.heap h' e C d f v') :
    ∃ G : Heap, (∀ b o, G.get? b = some o → h'.get? b = some o) ∧ G.get? e = none ∧ Inv X pins σ (upd H1 d (.xd [(f, v)])) { s1 with heap := G, toks := tk' } ∧ H1 d = none ∧ (upd H1 d (.xd [(f, v)])) e = none := by
  obtain ⟨oe, fv, hoe, hc, hd, hdat, h1⟩ := M.obj
  have hns := M.ns
  obtain ⟨G', g1, g2⟩ := restrict h' fun b => decide (b ≠ e)
  have gk : ∀ b, b ≠ e → G'.get? b = h'.get? b := fun b hb => g1 b (decide_eq_true hb)
  have ge : G'.get? e = none := g2 e (by simp)
  have old : ∀ b o, s1.heap.get? b = some o → G'.get? b = some o := fun b o q => (gk b (Nat.ne_of_lt (Nat.lt_of_lt_of_le (Heap.lt_size q) M.new))).trans (M.keep b o q)
  have ob : ObjOk X.prog X.w (upd H1 d (.xd [(f, v)])) G' d (.xd [(f, v)]) :=
    ⟨_, hns.at (fun o q => (gk d M.dne).trans q), fun g => relO_one rv g⟩
  have J : Inv X pins σ (upd H1 d (.xd [(f, v)])) { s1 with heap := G', toks := tk' } := I1.laid (t' := tk') old M.dbig ob
  refine ⟨G', fun b o q => ?_, ge, J, I1.hok.fresh M.dbig, ?_⟩
  · by_cases hb : b = e
    · rw [hb, ge] at q; cases q
    · exact (gk b hb).symm.trans q
  · rw [upd_ne (Ne.symm M.dne)]
    exact I1.hok.fresh M.new
def eErr (x f : Str) (fa : Ex) : Ex := fun e S => (fa e S).bind fun v S1 => .ok (.loc S1.length) (S1 ++ [.exc x [(f, v)]])
/-- an own exception's class -/
def XOk (X : Cx) (x f : Str) : Prop := ∃ qual newId bmB, XTxt X.K X.mg x f qual newId bmB
theorem ev_err {k : Nat} (T : XOk X x f) (hr : Room (k + 1) X.A) (hg : Gl X x) (ha : EE X W a fa) (hdb : (x == ("__debug__" : Str)) = false := by decide)
    (he : starEach (a :: []) X.env = (false, eval a X.env) :: starEach [] X.env := by rfl) (hpl : (backTo pos (starEach [] X.env)).any (·.1) = false := by rfl) : EE X W (.Call (.Name x p) [a] [] pos) (eErr x f fa) := by
  obtain ⟨qual, newId, bmB, T⟩ := T
  have haA := ea_cons ha ea_nil he
  refine ⟨fun pins s σ H Q I ⟨en, S, ρ, rs, re, q⟩ => ?_⟩
  refine wpAny_Call_Name_kw (ld_glob I hg T.gC ?_ hdb)
  refine PySem.W.callWith_K (h₀ := X.base) I.ok.mod.kin T.kC (thn (haA.run pos pins s σ H (fun vs H1 => ∃ v y S1 ρ1, vs = [y] ∧ RelS X.K H1 S1 ρ1 ∧ RV X.K H1 ρ1 v y ∧ Aft X.K (WE W σ) H1 ρ1 (RV X.K) (.ok (.loc S1.length) (S1 ++ [.exc x [(f, v)]])) Q) I ⟨en, S, ρ, rs, re, ?_⟩) fun us s1 ⟨vs, H1, I1, r, v, y, S1, ρ1, ev, r1, rv, q1⟩ => ⟨I1.kIn, ?_⟩) he hpl
  · have q' : Aft X.K (WE W σ) H ρ (RV X.K) ((fa en S).bind fun v S1 => .ok (.loc S1.length) (S1 ++ [.exc x [(f, v)]])) Q := q
    refine Aft.split (o := aCons fa aNil en S) (g := fun ds S1 => match ds with | [v] => Out.ok (D.loc S1.length) (S1 ++ [O.exc x [(f, v)]]) | _ => Out.bad) (RB := RV X.K) (Q := Q) (RA := RVs X.K) ?_ |>.imp ?_
    · have e2 : ((aCons fa aNil en S).bind fun ds S1 => match ds with | [v] => Out.ok (D.loc S1.length) (S1 ++ [O.exc x [(f, v)]]) | _ => Out.bad) = ((fa en S).bind fun v S1 => .ok (.loc S1.length) (S1 ++ [.exc x [(f, v)]])) := by
        unfold aCons aNil
        cases fa en S <;> rfl
      rw [e2]; exact q'
    · rintro xs H1 ⟨ds, S1, ρ1, r1, x1, rv, q1⟩
      match ds, rv, q1 with
      | [v], rv, q1 =>
        obtain ⟨y, rfl, ry⟩ := rv.one_inv
        exact ⟨v, y, S1, ρ1, rfl, r1, ry, q1⟩
  · subst ev
    cases r with
    | @cons _ v' _ us' rw' rn =>
    cases rn
    show wpAny _ _ (call (.ref (He.ga X.K x)) [v']) _ _ _
    have hlim := I1.nolimit
    refine wpAny_call (x_made (s := s1) T I1.kIn hlim (by have := hr.dp; omega) fun h' tk' ea d M => ?_)
    obtain ⟨G, gs, ge, J, hd, hea⟩ := made_inv (tk' := tk') I1 rw' M
    obtain ⟨oe, fv, hoe, hc, hdd, hdat, h1⟩ := M.obj
    have J2 : Inv X pins σ (upd (upd H1 d (.xd [(f, y)])) ea (ExV X.K x d ea)) { s1 with heap := h', toks := tk' } :=
      Inv.laidN (s := { s1 with heap := G, toks := tk' }) (h' := h') (t' := tk') J gs ge hea ⟨⟨oe, fv, hoe, ⟨hc, hdd⟩, hdat, h1⟩, ⟨oe, hoe⟩, fun h1 h2 z k => by
        obtain ⟨o', v', e1, z1, e2, e3⟩ := z
        exact ⟨o', v', k _ e1, z1, e2, e3⟩⟩
    have r2 : RelS X.K (upd H1 d (.xd [(f, y)])) S1 ρ1 := r1.upd_new hd
    have x2 : Ext H1 (upd H1 d (.xd [(f, y)])) ρ1 ρ1 := Ext.upd_new hd
    have x3 : Ext (upd H1 d (.xd [(f, y)])) (upd (upd H1 d (.xd [(f, y)])) ea (ExV X.K x d ea)) ρ1 (ρ1 ++ [ea]) := Ext.push hea
    have r3 : RelS X.K (upd (upd H1 d (.xd [(f, y)])) ea (ExV X.K x d ea)) (S1 ++ [.exc x [(f, v)]]) (ρ1 ++ [ea]) := r2.push hea ⟨d, [(f, y)], upd_same, by rw [upd_ne M.dne]; exact upd_same, ⟨rfl, RVs.one ((rv.mono x2).mono x3)⟩⟩
    refine ⟨.ref ea, _, J2, rfl, q1 _ _ (.ref ea) r3 (x2.trans x3) ?_⟩
    simp only [RV]
    exact ⟨ea, by rw [← r1.len]; simp, rfl⟩
/-- raise X(v) -/
def sRaise (x f : Str) (fa : Ex) : Sg := fun e S => (fa e S).bind fun v S1 => .exc x [(f, v)] S1
theorem es_raise {k : Nat} {pos2 : Pos} (hc : X.calm = true) (T : XOk X x f) (hr : Room (k + 1) X.A) (tk : Takes X W) (hg : Gl X x) (ha : EE X W a fa) (hdb : (x == ("__debug__" : Str)) = false := by decide)
    (he : starEach (a :: []) X.env = (false, eval a X.env) :: starEach [] X.env := by rfl) (hpl : (backTo pos (starEach [] X.env)).any (·.1) = false := by rfl) : ES X W (.Raise (some (.Call (.Name x p) [a] [] pos)) none pos2) (sRaise x f fa) := by
  obtain ⟨qual, newId, bmB, T⟩ := T
  have haA := ea_cons ha ea_nil he
  have mk : PMk X (.Call (.Name x p) [a] [] pos) (fun σ H Q => ∃ en S ρ, RelS X.K H S ρ ∧ RE X.K H ρ en σ ∧ Aft X.K (WE W σ) H ρ (RV X.K) (fa en S) (fun y H1 => ∃ v S1 ρ1, RelS X.K H1 S1 ρ1 ∧ Ext H H1 ρ ρ1 ∧ RV X.K H1 ρ1 v y ∧ ∀ d, H1 d = none → Q (.ref (He.ga X.K x)) (some d) (upd H1 d (.xd [(f, y)])))) := by
    intro pins s σ H Q I ⟨en, S, ρ, rs, re, q⟩
    refine wpAny_Call_Name_kw (ld_glob I hg T.gC ?_ hdb)
    refine PySem.W.callWith_K (h₀ := X.base) I.ok.mod.kin T.kC (thn (haA.run pos pins s σ H (fun vs H1 => ∃ y, vs = [y] ∧ ∀ d, H1 d = none → Q (.ref (He.ga X.K x)) (some d) (upd H1 d (.xd [(f, y)]))) I ⟨en, S, ρ, rs, re, ?_⟩) fun us s1 ⟨vs, H1, I1, r, y, ev, q1⟩ => ⟨I1.kIn, ?_⟩) he hpl
    · have q2 := Aft.split (o := fa en S) (RA := RV X.K) (RB := RVs X.K) (g := fun v S1 => Out.ok [v] S1) (Q := fun vs H1 => ∃ y, vs = [y] ∧ ∀ d, H1 d = none → Q (.ref (He.ga X.K x)) (some d) (upd H1 d (.xd [(f, y)]))) (E := WE W σ) (K := X.K) (H := H) (ρ := ρ)
      have e2 : aCons fa aNil en S = (fa en S).bind fun v S1 => Out.ok [v] S1 := by
        unfold aCons aNil
        cases fa en S <;> rfl
      rw [e2]
      cases hfa : fa en S with
      | bad => rw [hfa] at q; exact q.elim
      | exc C fs S1 => rw [hfa] at q; exact q
      | ok v S1 =>
        rw [hfa] at q
        intro ρ' H' xs rs' ex' rvs
        obtain ⟨y, rfl, ry⟩ := rvs.one_inv
        obtain ⟨v2, S2, ρ2, _, _, _, q3⟩ := q ρ' H' y rs' ex' ry
        exact ⟨y, rfl, q3⟩
    · subst ev
      cases r with
      | @cons _ v' _ us' rw' rn =>
      cases rn
      show wpAny _ _ (call (.ref (He.ga X.K x)) [v']) _ _ _
      have hlim := I1.nolimit
      refine wpAny_call (x_made (s := s1) T I1.kIn hlim (by have := hr.dp; omega) fun h' tk' ea d M => ?_)
      obtain ⟨G, gs, ge, J, hd, hea⟩ := made_inv (tk' := tk') I1 rw' M
      obtain ⟨oe, fv, hoe, hc, hdd, hdat, h1⟩ := M.obj
      exact ⟨ea, oe, fv, _, _, .ref (He.ga X.K x), some d, rfl, J, gs, ge, hoe, ⟨hc, hdd⟩, hdat, h1, hea, rfl, I1.bare, raises_own T.exC T.tyC, q1 d hd⟩
  refine PS.by (ps_raise hc tk mk) fun D' σ H ⟨en, S, ρ, rs, re, q⟩ => ?_
  refine ⟨en, S, ρ, rs, re, ?_⟩
  unfold sRaise at q
  cases hfa : fa en S with
  | bad => rw [hfa] at q; exact q.elim
  | exc C fs S1 => rw [hfa] at q; exact fun ρ' H' d xs rs' ex' hd rf => q ρ' H' d xs σ rs' ex' hd rf
  | ok v S1 =>
    rw [hfa] at q
    intro ρ' H' y rs' ex' ry
    refine ⟨v, S1, ρ', rs', ex', ry, fun d hd => ?_⟩
    have x2 : Ext H' (upd H' d (.xd [(f, y)])) ρ' ρ' := Ext.upd_new hd
    exact q ρ' _ d _ σ (rs'.upd_new hd) (ex'.trans x2) upd_same ⟨rfl, RVs.one (ry.mono x2)⟩
end

/-! ### attributes of exceptions held as values -/
def excAt (S : Store) (d : D) : Option (Str × List (Str × D)) := match d with
  | .loc l => match S[l]? with
    | some (.exc C fs) => some (C, fs)
    | _ => none
  | _ => none
theorem excAt_inv {K : PySem.W.Frag} {H : Hp} {ρ : List Addr} {S : Store} {d : D} {x : V} {C : Str} {fs : List (Str × D)} (rs : RelS K H S ρ) (rv : RV K H ρ d x) (h : excAt S d = some (C, fs)) :
    ∃ a dx xs, x = .ref a ∧ H a = some (ExV K C dx a) ∧ H dx = some (.xd xs) ∧ RF K H ρ fs xs := by
  unfold excAt at h
  cases d <;> try cases h
  rename_i l'
  simp only at h
  cases hS : S[l']? with
  | none => rw [hS] at h; cases h
  | some ob =>
    rw [hS] at h
    cases ob <;> try cases h
    obtain ⟨a, ha, rfl⟩ := rv_loc rv
    obtain ⟨dx, xs, h1, h2, h3⟩ := rs.obj l' a _ ha hS
    exact ⟨a, dx, xs, rfl, h1, h2, h3⟩
theorem exv_at {P : Program} {w : World} {K : PySem.W.Frag} {H : Hp} {h : Heap} {C : Str} {d a : Addr} (hok : HOk P w H h) (he : H a = some (ExV K C d a)) :
    ∃ (oe : Obj) (vs : Array Value), h.get? a = some oe ∧ Zc (.ref (He.ga K C)) (some d) oe ∧ oe.data = .fields vs ∧ vs[1]? = some .none := by
  have x : ObjOk P w H h a (.ext fun h => ∃ (oe : Obj) (vs : Array Value), h.get? a = some oe ∧ Zc (.ref (He.ga K C)) (some d) oe ∧ oe.data = .fields vs ∧ vs[1]? = some .none) := hok a _ he
  exact x.1
section
variable {X : Cx} {W : WX} {a e : Expr} {pos p : Pos} {fa fb : Ex} {x f : Str}
/-- e.f, e one of the exceptions that the table names with f -/
def eXf (Cs : List Str) (n : Str) (f : Ex) : Ex := fun e S => (f e S).bind fun d S1 => match excAt S1 d with
  | some (C, fs) => if C ∈ Cs then match fs.lookup n with
    | some v => .ok v S1
    | none => .bad
    else .bad
  | none => .bad
theorem ev_xf {Cs : List Str} {n : Str} (T : ∀ C ∈ Cs, XOk X C n) (he : EE X W e fa) (hb : attributeBase e n X.env (eval e X.env) = eval e X.env := by rfl) : EE X W (.Attribute e n pos) (eXf Cs n fa) := by
  refine ⟨fun pins s σ H Q I ⟨en, S, ρ, rs, re, q⟩ => ?_⟩
  refine attr_of hb (thn (he.run pins s σ H (fun x H1 => ∃ C fs v S1 ρ1 a dx xs, x = V.ref a ∧ C ∈ Cs ∧ H1 a = some (ExV X.K C dx a) ∧ H1 dx = some (.xd xs) ∧ RF X.K H1 ρ1 fs xs ∧ fs.lookup n = some v ∧ RelS X.K H1 S1 ρ1 ∧ Aft X.K (WE W σ) H1 ρ1 (RV X.K) (.ok v S1) Q) I (tEv_then (g := fun d S1 => match excAt S1 d with
  | some (C, fs) => if C ∈ Cs then match fs.lookup n with
    | some v => Out.ok v S1
    | none => Out.bad
    else Out.bad
  | none => Out.bad) rs re q fun x H1 d S1 ρ1 r1 e1 x1 rv q1 => ?_)) fun u s1 ⟨x, H1, I1, rx, C, fs, v, S1, ρ1, a, dx, xs, ex, hC, h1, h2, h3, hl, r1, q1⟩ => ?_)
  · cases hi : excAt S1 d with
    | none => rw [hi] at q1; exact q1.elim
    | some t =>
      obtain ⟨C, fs⟩ := t
      rw [hi] at q1
      dsimp only at q1
      obtain ⟨a, dx, xs, rfl, h1, h2, h3⟩ := excAt_inv r1 rv hi
      by_cases hC : C ∈ Cs
      · rw [if_pos hC] at q1
        cases hf : fs.lookup n with
        | none => rw [hf] at q1; exact q1.elim
        | some v =>
          rw [hf] at q1
          exact ⟨C, fs, v, S1, ρ1, a, dx, xs, rfl, hC, h1, h2, h3, hf, r1, q1⟩
      · rw [if_neg hC] at q1; exact q1.elim
  · subst ex
    obtain rfl : u = Value.ref a := rx
    obtain ⟨qual, newId, bmB, T⟩ := T C hC
    obtain ⟨oe, vs, hoe, hz, hd, _⟩ := exv_at I1.hok h1
    have hx : ObjOk X.prog X.w H1 s1.heap dx (.xd xs) := I1.hok dx _ h2
    obtain ⟨mA, hns, hr⟩ := hx
    obtain ⟨od, ho, hlk⟩ := lookIn_ns hns
    obtain ⟨y, hy, ry⟩ := (h3.lookup (f := n)).1 v hl
    obtain ⟨u, hu, ru⟩ := RelO.some_of (v := y) (o := mA n) (by rw [← hy]; exact hr n)
    have J : PySem.W.InstAt s1.heap a oe (He.ga X.K C) (some od) := ⟨hoe, hz.1, by unfold PySem.W.notCls; rw [hd] <;> rfl, by rw [hz.2]; exact ho⟩
    exact HandSPX.exc_get I1.kIn J T.ga T.gg T.exC (PySem.W.findObj_own T.hdC T.noN rfl (by rw [hlk, hu])) (handed_of ru) ⟨y, H1, I1.tok _, ru, q1 ρ1 H1 y r1 .refl ry⟩
end

/-! ### isinstance -/
inductive TyD where
  | ty (n : String)
  | own (C : Str)
  | exc (C : Str)
  deriving DecidableEq
def TyD.v (K : PySem.W.Frag) : TyD → Value
  | .ty n => .type n
  | .own C => .ref (He.ga K C)
  | .exc C => .ref (He.ga K C)
def tyOf (S : Store) : D → Option TyD
  | .non => some (.ty "NoneType")
  | .bl _ => some (.ty "bool")
  | .int _ => some (.ty "int")
  | .str _ => some (.ty "str")
  | .tup _ => some (.ty "tuple")
  | .loc l => match S[l]? with
    | some (.lst _) => some (.ty "list")
    | some (.ins C _) => some (.own C)
    | some (.exc C _) => some (.exc C)
    | _ => none
  | _ => none
/-- a class as a value -/
def clsOf : D → Option TyD
  | .ty n => some (.ty n)
  | .glo C => some (.own C)
  | _ => none
def isAll (tb : TyD → TyD → Option Bool) (t : TyD) : List D → Option Bool
  | [] => some false
  | c :: r => match clsOf c with
    | some u => (match tb t u with
      | some true => some true
      | some false => isAll tb t r
      | none => none)
    | none => none
def bIsi (tb : TyD → TyD → Option Bool) : Bk := fun ds S => match ds with
  | [d, .tup (c :: cs)] => (match tyOf S d with
    | some t => (match isAll tb t (c :: cs) with
      | some b => .ok (.bl b) S
      | none => .bad)
    | _ => .bad)
  | [d, c] => (match tyOf S d with
    | some t => (match clsOf c with
      | some u => (match tb t u with
        | some b => .ok (.bl b) S
        | none => .bad)
      | none => .bad)
    | _ => .bad)
  | _ => .bad
/-- what the table leans on -/
structure IsOk (K : PySem.W.Frag) (tb : TyD → TyD → Option Bool) : Prop where
  one : ∀ t u b, tb t u = some b → PySem.W.kitOne K (t.v K) (u.v K) = some b
  own : ∀ C u b, tb (.own C) u = some b → Cls K (He.ga K C) ∧ PySem.W.findIn K (.ref (He.ga K C)) "__class__" = some (some (.builtin "object.__class__")) ∧ PySem.W.mroIn K (He.ga K C) (.type "object") = some true
  exc : ∀ C u b, tb (.exc C) u = some b → PySem.W.hasDictIn K (He.ga K C) = true ∧ PySem.W.findIn K (.ref (He.ga K C)) "__getattribute__" = some (some (.builtin "BaseException.__getattribute__")) ∧ PySem.W.findIn K (.ref (He.ga K C)) "__getattr__" = some none ∧
    PySem.W.subIn K (.ref (He.ga K C)) (.type "BaseException") = some true ∧ PySem.W.findIn K (.ref (He.ga K C)) "__class__" = some (some (.builtin "object.__class__")) ∧ PySem.W.mroIn K (He.ga K C) (.type "object") = some true
section
variable {X : Cx} {pins : List (Addr × Obj)} {σ : L2.St} {H : Hp} {ρ : List Addr} {S : Store} {s : Shared} {tb : TyD → TyD → Option Bool}
theorem sp_class {K : PySem.W.Frag} : PySem.W.specialIn K (.builtin "object.__class__") "__get__" = some (some (.builtin "getset_descriptor.__get__")) ∧ PySem.W.takesIn K (.builtin "object.__class__") = some true := ⟨by kernel_rfl, by kernel_rfl⟩
theorem kit_D (T : IsOk X.K tb) {d : D} {x : V} {u : Value} {t u' : TyD} {b : Bool} (I : Inv X pins σ H s) (rs : RelS X.K H S ρ) (rv : RV X.K H ρ d x) (rx : RelV x u) (ht : tyOf S d = some t) (hb : tb t u' = some b) :
    ∃ P : Heap → Prop, PySem.W.KitX X.K u (t.v X.K) P ∧ P s.heap ∧ u ≠ .builtin "__main__.__loader__#opaque" := by
  cases d with
  | non => cases ht; simp only [RV] at rv; subst rv; exact kit_of I rx (.base .non)
  | bl y => cases ht; simp only [RV] at rv; subst rv; exact kit_of I rx (.base (.bl y))
  | int i => cases ht; simp only [RV] at rv; subst rv; exact kit_of I rx (.base (.int i))
  | str y => cases ht; simp only [RV] at rv; subst rv; exact kit_of I rx (.base (.str y))
  | ty n => cases ht
  | glo n => cases ht
  | tup ds =>
    cases ht
    simp only [RV] at rv
    obtain ⟨a, xs, rfl, hq, _⟩ := rv
    cases (show u = Value.ref a from rx)
    obtain ⟨its, _, ⟨o, h1, h2, _⟩, _⟩ := I.tuple hq
    exact ⟨_, PySem.W.kitx_tuple, ⟨o, h1, h2⟩, fun z => nomatch z⟩
  | loc l =>
    obtain ⟨a, ha, rfl⟩ := rv_loc rv
    obtain ⟨o, ho, hr⟩ := rs.at' ha
    simp only [tyOf, ho] at ht
    cases o with
    | lst ds => cases ht; obtain ⟨xs, h1, _⟩ := hr; exact kit_of I rx (.base (.lst h1))
    | ro ds => cases ht
    | dic kvs => cases ht
    | ins C fs =>
      cases ht
      obtain ⟨dx, xs, h1, _⟩ := hr
      obtain ⟨c1, c2, c3⟩ := T.own C u' b hb
      exact kit_of I rx (.base (.ins h1 c1 c2 sp_class.1 sp_class.2 c3))
    | exc C fs =>
      cases ht
      obtain ⟨dx, xs, h1, _, _⟩ := hr
      cases (show u = Value.ref a from rx)
      obtain ⟨c1, c2, c3, c4, c5, c6⟩ := T.exc C u' b hb
      obtain ⟨oe, vs, hoe, hz, hd, _⟩ := exv_at I.hok h1
      have hx : ObjOk X.prog X.w H s.heap dx (.xd xs) := I.hok dx _ ‹_›
      obtain ⟨mA, hns, hr⟩ := hx
      obtain ⟨od, ho', hlk⟩ := lookIn_ns hns
      have J : PySem.W.InstAt s.heap a oe (He.ga X.K C) (some od) := ⟨hoe, hz.1, by unfold PySem.W.notCls; rw [hd] <;> rfl, by rw [hz.2]; exact ho'⟩
      obtain ⟨cd, hcd, _⟩ := PySem.W.any_some c1
      exact ⟨_, PySem.W.kitx_exc (by rw [hcd]; rfl) c2 c3 c4 c5 sp_class.1 sp_class.2 c6, J, fun z => nomatch z⟩
theorem cls_rel {K : PySem.W.Frag} {c : D} {y : V} {w : Value} {t : TyD} (h : clsOf c = some t) (rv : RV K H ρ c y) (r : RelV y w) : w = t.v K := by
  cases c <;> try cases h
  · simp only [RV] at rv; subst rv; exact r
  · simp only [RV] at rv; subst rv; exact r
theorem isAll_ok (T : IsOk X.K tb) {t : TyD} : ∀ {cs : List D} {ys : List V} {ws : List Value} {b : Bool}, isAll tb t cs = some b → RVs X.K H ρ cs ys → Vals ys ws → PySem.W.kitAny X.K (t.v X.K) ws = some b
  | [], _, _, b, h, rv, r => by
    rw [rv.nil_inv] at r
    cases r
    cases h
    rfl
  | c :: cs, _, _, b, h, rv, r => by
    obtain ⟨y, ys, rfl, r1, r2⟩ := rv.cons_inv
    cases r with
    | @cons _ w _ ws q1 q2 =>
    unfold isAll at h
    cases hc : clsOf c with
    | none => rw [hc] at h; cases h
    | some u =>
      rw [hc] at h
      dsimp only at h
      obtain rfl := cls_rel hc r1 q1
      cases hb : tb t u with
      | none => rw [hb] at h; cases h
      | some b1 =>
        rw [hb] at h
        have e1 := T.one _ _ _ hb
        unfold PySem.W.kitAny
        rw [e1]
        cases b1 with
        | true => cases h; rfl
        | false => exact isAll_ok T h r2 q2
theorem isAll_some {t : TyD} : ∀ {cs : List D} {b : Bool}, isAll tb t cs = some b → cs = [] ∨ ∃ u b, tb t u = some b
  | [], _, _ => .inl rfl
  | c :: cs, b, h => .inr (by
    unfold isAll at h
    cases hc : clsOf c with
    | none => rw [hc] at h; cases h
    | some u =>
      rw [hc] at h
      dsimp only at h
      cases hb : tb t u with
      | none => rw [hb] at h; cases h
      | some b1 => exact ⟨u, b1, hb⟩)
theorem cr_isi (T : IsOk X.K tb) : CallR X (.builtin "isinstance") (rCD X.K (bIsi tb)) := by
  intro pins s σ H xs us Q I r ⟨ds, S, ρ, rs, rv, q⟩
  have two : ∀ d c, ds = [d, c] → ∃ x y u w, xs = [x, y] ∧ us = [u, w] ∧ RelV x u ∧ RelV y w ∧ RV X.K H ρ d x ∧ RV X.K H ρ c y := fun d c e => by
    subst e
    obtain ⟨x, y, rfl, r1, r2⟩ := rv.two_inv
    obtain ⟨u, w, rfl, q1, q2⟩ := vals2 r
    exact ⟨x, y, u, w, rfl, rfl, q1, q2, r1, r2⟩
  unfold bIsi at q
  split at q
  · rename_i d c cs
    obtain ⟨x, y, u, w, rfl, rfl, q1, q2, r1, r2⟩ := two d _ rfl
    cases ht : tyOf S d with
    | none => rw [ht] at q; exact q.elim
    | some t =>
      rw [ht] at q
      dsimp only at q
      cases hb : isAll tb t (c :: cs) with
      | none => rw [hb] at q; exact q.elim
      | some b =>
        rw [hb] at q
        simp only [RV] at r2
        obtain ⟨a, ys, rfl, hq, rys⟩ := r2
        cases (show w = Value.ref a from q2)
        obtain ⟨its, hv, ⟨o, h1, h2, n, h3⟩, _⟩ := I.tuple hq
        obtain ⟨oc, od, dt, sl⟩ := o
        simp only at h2 h3
        subst h2 h3
        rcases isAll_some hb with e | ⟨u', b', hu⟩
        · cases e
        · obtain ⟨P, Z, p, hx⟩ := kit_D T I rs r1 q1 ht hu
          exact PySem.W.kia_tup Z I.kIn p h1 (isAll_ok T hb rys hv) hx fun tk => ⟨.bl b, H, I.tok tk, rfl, q ρ H (.bl b) rs .refl (rv_bl b)⟩
  · rename_i d c _
    obtain ⟨x, y, u, w, rfl, rfl, q1, q2, r1, r2⟩ := two d c rfl
    cases ht : tyOf S d with
    | none => rw [ht] at q; exact q.elim
    | some t =>
      rw [ht] at q
      dsimp only at q
      cases hc : clsOf c with
      | none => rw [hc] at q; exact q.elim
      | some u' =>
        rw [hc] at q
        dsimp only at q
        cases hb : tb t u' with
        | none => rw [hb] at q; exact q.elim
        | some b =>
          rw [hb] at q
          obtain rfl := cls_rel hc r2 q2
          obtain ⟨P, Z, p, hx⟩ := kit_D T I rs r1 q1 ht hb
          exact PySem.W.kia_one Z I.kIn p (T.one _ _ _ hb) hx fun tk => ⟨.bl b, H, I.tok tk, rfl, q ρ H (.bl b) rs .refl (rv_bl b)⟩
  · exact q.elim
theorem nb_isi : noExc1 (bIsi tb) := fun ds S C fs S' h => by
  unfold bIsi at h
  repeat' split at h
  all_goals cases h
end
end Ev

/-! Ev7: either-or targets and iterations, names of classes, methods of builtins. -/
namespace Ev
open PySem PySem.Spec PyProof.Rows L2

section
variable {X : Cx} {W : WX} {a b e o : Expr} {es : List Expr} {pos p apos : Pos} {fa fb fo : Ex} {ga : Ag} {x m : Str}
theorem PG.or {tg : Expr} {t t' : TG} (h : PG X tg t) (h' : PG X tg t') : PG X tg (fun v σ H Q => t v σ H Q ∨ t' v σ H Q) := ⟨fun pins s σ H v u Q I r q => q.elim (h.run pins s σ H v u Q I r) (h'.run pins s σ H v u Q I r)⟩
theorem PI.or {tg iter : Expr} {t t' : TI} (h : PI X tg iter t) (h' : PI X tg iter t') : PI X tg iter (fun σ H R => t σ H R ∨ t' σ H R) := ⟨fun pins s σ H R I q => q.elim (h.run pins s σ H R I) (h'.run pins s σ H R I)⟩
/-- a, b, .. = a tuple or a list -/
def gU (n : Nat) (u : Tgs) : Tg := fun d e S => match d with
  | .tup ds => if ds.length = n then u ds e S else .bad
  | .loc l => match lstAt S l with
    | some ds => if ds.length = n then u ds e S else .bad
    | none => .bad
  | _ => .bad
theorem eg_seq {tgs : List Expr} {k1 : Nat} {u : Tgs} {n : Nat} (hc : X.calm = true) (h : EGs X W tgs u) (hn : (assignEach tgs X.env).length = n := by rfl) (hst : (assignEach tgs X.env).findIdx? (·.1) = none := by rfl) : EG X W (.Tuple tgs k1 pos) (gU n u) :=
  PG.by (PG.or (pg_tup hc h hn hst) (pg_lst hc h hn hst)) fun v σ H Q ⟨d, e, S, ρ, rs, re, rv, q⟩ => by
    cases d <;> simp only [gU] at q <;> try exact q.elim
    · rename_i l
      obtain ⟨p, hp, rfl⟩ := rv_loc rv
      cases hl : lstAt S l with
      | none => rw [hl] at q; exact q.elim
      | some ds =>
        rw [hl] at q
        obtain ⟨xs, h1, h2⟩ := lstAt_seq rs hp hl
        dsimp only at q
        by_cases hl : ds.length = n
        · rw [if_pos hl] at q
          exact .inr ⟨p, xs, rfl, h1, by rw [h2.length]; exact hl, _, e, S, ρ, rs, re, h2, q⟩
        · rw [if_neg hl] at q
          exact q.elim
    · rename_i ds
      obtain ⟨a, xs, rfl, h1, h2⟩ := rv_tup rv
      by_cases hl : ds.length = n
      · rw [if_pos hl] at q
        exact .inl ⟨a, xs, rfl, h1, by rw [h2.length]; exact hl, _, e, S, ρ, rs, re, h2, q⟩
      · rw [if_neg hl] at q
        exact q.elim
/-- over a list or a tuple -/
def iS (f : Ex) : Ig := fun e S => (f e S).bind fun d S1 => match d with
  | .loc l => match lstAt S1 l with
    | some ds => .ok (srcL l ds.length) S1
    | none => .bad
  | .tup ds => .ok (srcOf ds) S1
  | _ => .bad
theorem ei_seq {tg : Expr} (he : EE X W e fa) : EI X W tg e (iS fa) := by
  refine ⟨fun pins s σ H R I ⟨en, S, ρ, rs, re, q⟩ => ?_⟩
  unfold iS at q
  cases hf : fa en S with
  | bad => rw [hf] at q; exact q.elim
  | exc C fs S1 =>
    refine (ei_list he).run pins s σ H R I ⟨en, S, ρ, rs, re, ?_⟩
    unfold iL
    rw [hf] at q ⊢
    exact q
  | ok d S1 =>
    cases d with
    | loc l =>
      refine (ei_list he).run pins s σ H R I ⟨en, S, ρ, rs, re, ?_⟩
      unfold iL
      rw [hf] at q ⊢
      exact q
    | tup ds =>
      refine (ei_tup he).run pins s σ H R I ⟨en, S, ρ, rs, re, ?_⟩
      unfold iT
      rw [hf] at q ⊢
      exact q
    | _ => rw [hf] at q; exact q.elim
theorem nt_seq (n : Nat) (u : Tgs) (h : ∀ ds e S C fs S', u ds e S ≠ .exc C fs S') : noExcT (gU n u) := fun d e S C fs S' q => by
  unfold gU at q
  repeat' split at q
  all_goals first | exact h _ _ _ _ _ _ q | cases q
theorem nts_nil : ∀ ds e S C fs S', gsNil ds e S ≠ .exc C fs S' := fun ds e S C fs S' q => by
  unfold gsNil at q
  split at q <;> cases q
theorem nts_cons {t : Tg} {u : Tgs} (ht : noExcT t) (hu : ∀ ds e S C fs S', u ds e S ≠ .exc C fs S') : ∀ ds e S C fs S', gsCons t u ds e S ≠ .exc C fs S' := fun ds e S C fs S' q => by
  cases ds with
  | nil => cases q
  | cons d r =>
    simp only [gsCons] at q
    cases hx : t d e S with
    | ok e' S1 => rw [hx] at q; exact hu _ _ _ _ _ _ q
    | exc C fs S1 => exact ht _ _ _ _ _ _ hx
    | bad => rw [hx] at q; cases q

/-! names -/
theorem ev_glo (hg : Gl X x) (hm : X.mg x = some (.ref (He.ga X.K x))) (hd : (x == ("__debug__" : Str)) = false := by decide) : EE X W (.Name x pos) (eC (.glo x)) := ev_c (pe_glob hg hm (v := .ref (He.ga X.K x)) rfl hd) fun _ _ => rv_glo x
theorem ev_bty {T : String} (hg : Gl X x) (hm : X.mg x = none) (hv : bootBuiltins x = some (.type T)) (hn : x ≠ "__name__" := by decide) (hd : (x == ("__debug__" : Str)) = false := by decide) : EE X W (.Name x pos) (eC (.ty T)) := ev_c (pe_bltn hg hm hv (v := .ty T) rfl hn hd) fun _ _ => by simp [RV]

/-! methods of builtins -/
def tyOk (T : String) (S : Store) : D → Bool
  | .str _ => T == "str"
  | .int _ => T == "int"
  | .loc l => match S[l]? with
    | some (.lst _) => T == "list"
    | _ => false
  | _ => false
theorem tyOk_ok {T : String} {H : Hp} {ρ : List Addr} {S : Store} {d : D} {x : V} (rs : RelS X.K H S ρ) (rv : RV X.K H ρ d x) (h : tyOk T S d = true) : tyV X.K T x H := by
  cases d with
  | str z => simp only [RV] at rv; subst rv; exact eq_of_beq h
  | int z => simp only [RV] at rv; subst rv; exact eq_of_beq h
  | loc l =>
    obtain ⟨a, ha, rfl⟩ := rv_loc rv
    obtain ⟨o, ho, hr⟩ := rs.at' ha
    simp only [tyOk, ho] at h
    cases o <;> try cases h
    obtain ⟨xs, h1, _⟩ := hr
    exact .inl ⟨eq_of_beq h, xs, .inl (.inl h1)⟩
  | _ => cases h
def rMD (K : PySem.W.Frag) (k : Bk) : V → List V → Hp → VK → Prop := fun x xs H Q => rCD K k (x :: xs) H Q
def eBm (T : String) (k : Bk) (fo : Ex) (g : Ag) : Ex := fun e S => (fo e S).bind fun d S1 => if tyOk T S1 d = true then (g e S1).bind fun ds S2 => k (d :: ds) S2 else .bad
variable {T id : String} {k : Bk}
theorem ev_bm (pa : PlainAttrs T) (slot : Slot T m id) (hty : typeOf (.builtin id) = pure (.type "method_descriptor")) (hm : MtR X id (rMD X.K k)) (hk : noExc1 k) (ho : EE X W o fo) (ha : EA X W (e :: es) ga)
    (hbase : attributeBase o m X.env (eval o X.env) = eval o X.env := by rfl)
    (hfew : ((backTo pos (starEach (e :: es) X.env)).all (fun x => !x.1) && (backToKw pos (keywordEach [] X.env)).all (fun x => x.1.isSome)
      && decide ((e :: es).length + ([] : List Keyword).length + (if ([] : List Keyword).isEmpty then 0 else 1) < 30)) = true := by rfl)
    (hline : (apos.endLine == pos.line) = true := by rfl) (hs : starEach (e :: es) X.env = (false, eval e X.env) :: starEach es X.env := by rfl) (hplain : (backTo pos (starEach es X.env)).any (·.1) = false := by rfl) :
    EE X W (.Call (.Attribute o m apos) (e :: es) [] pos) (eBm T k fo ga) := PE.by (pe_bm pa slot hty hm ho ha hbase hfew hline hs hplain) fun σ H Q ⟨en, S, ρ, rs, re, q⟩ => by
  refine tEv_then (g := fun d S1 => if tyOk T S1 d = true then (ga en S1).bind fun ds S2 => k (d :: ds) S2 else .bad) rs re q fun x H1 d S1 ρ1 r1 e1 x1 rv q1 => ?_
  by_cases ht : tyOk T S1 d = true
  · rw [if_pos ht] at q1
    refine ⟨tyOk_ok r1 rv ht, tAg_then (g := fun ds S2 => k (d :: ds) S2) r1 e1 q1 fun xs H2 ds S2 ρ2 r2 e2 x2 rv2 q2 => ⟨d :: ds, S2, ρ2, r2, RVs.cons (rv.mono x2) rv2, aft_noE (fun _ _ _ => hk _ _ _ _ _) q2⟩⟩
  · rw [if_neg ht] at q1; exact q1.elim
def bAppend : Bk := fun ds S => match ds with
  | [.loc l, v] => match S[l]? with
    | some (.lst xs) => if xs.length < sizeLine then .ok .non (S.set l (.lst (xs ++ [v]))) else .bad
    | _ => .bad
  | _ => .bad
theorem nb_append : noExc1 bAppend := fun ds S C fs S' h => by
  unfold bAppend at h
  repeat' split at h
  all_goals cases h
theorem mr_append : MtR X "list.append" (rMD X.K bAppend) := by
  intro pins s σ H x xs v us Q I rx rxs ⟨ds, S, ρ, rs, rv, q⟩
  unfold bAppend at q
  split at q
  · rename_i l w
    obtain ⟨y, z, e, r1, r2⟩ := rv.two_inv
    cases e
    obtain ⟨p, hp, rfl⟩ := rv_loc r1
    split at q
    · rename_i ds' hS
      split at q
      · rename_i hl
        obtain ⟨ys, h1, h2⟩ := rs.obj l p _ hp hS
        have ex := Ext.write (o := .lst (ys ++ [z])) rs hp
        refine mt_append pins s σ H _ _ v us Q I rx rxs ⟨p, ys, z, rfl, rfl, h1, by rw [h2.length]; exact hl, ?_⟩
        exact q ρ _ .non (rs.write (ob := .lst (ds' ++ [w])) hp ⟨_, upd_same, (h2.mono ex).append (RVs.one (r2.mono ex))⟩) ex rv_non
      · exact q.elim
    · exact q.elim
  · exact q.elim
theorem ev_append (ho : EE X W o fo) (ha : EE X W e fa)
    (hbase : attributeBase o "append" X.env (eval o X.env) = eval o X.env := by rfl)
    (hfew : ((backTo pos (starEach [e] X.env)).all (fun x => !x.1) && (backToKw pos (keywordEach [] X.env)).all (fun x => x.1.isSome)
      && decide ([e].length + ([] : List Keyword).length + (if ([] : List Keyword).isEmpty then 0 else 1) < 30)) = true := by rfl)
    (hline : (apos.endLine == pos.line) = true := by rfl) (hs : starEach [e] X.env = (false, eval e X.env) :: starEach [] X.env := by rfl) (hplain : (backTo pos (starEach [] X.env)).any (·.1) = false := by rfl) :
    EE X W (.Call (.Attribute o "append" apos) [e] [] pos) (eBm "list" bAppend fo (aCons fa aNil)) :=
  ev_bm F.plainAttrs_list F.slot_list_append F.type_list_append mr_append nb_append ho (ea_cons ha ea_nil hs) hbase hfew hline hs hplain
end
theorem nv_var (i : Nat) : ∀ e S C fs S', eVar i e S ≠ .exc C fs S' := fun e S C fs S' h => by
  unfold eVar at h
  split at h <;> cases h
theorem nv_c (d : D) : ∀ e S C fs S', eC d e S ≠ .exc C fs S' := fun e S C fs S' h => by cases h
end Ev

/-! Ev8: the head: facts by observers, the law's end. -/
namespace Ev
open PySem PySem.Spec PyProof.Rows L2

/-! ### what the module's names reach -/
def hasB (m a : Nat) : Bool := (m >>> a) % 2 == 1
def isInts (o : Obj) : Bool := match o.cls, o.data with
  | .type "list", .seq its _ => its.toList.all fun v => match v with
    | .int _ _ => true
    | _ => false
  | _, _ => false
def addNew (g : Addr → Option Obj) : List Addr → Nat → List Addr → Nat × List Addr
  | [], m, acc => (m, acc)
  | a :: r, m, acc => match hasB m a with
    | true => addNew g r m acc
    | false => match g a with
      | some o => (match isInts o with
        | true => addNew g r (m ||| (1 <<< a)) acc
        | false => addNew g r (m ||| (1 <<< a)) (a :: acc))
      | none => addNew g r (m ||| (1 <<< a)) acc
def refsAll (g : Addr → Option Obj) (as : List Addr) : List Addr := as.flatMap fun a => match g a with
  | some o => He.refsD o
  | none => []
def reach (g : Addr → Option Obj) : Nat → Nat → List Addr → List Addr
  | 0, _, _ => []
  | n + 1, m, fr => match addNew g (refsAll g fr) m [] with
    | (m', new) => new ++ reach g n m' new
def asX (g : Addr → Option Obj) (n : Nat) : List Addr := mainGlobals :: reach g n (1 <<< mainGlobals) [mainGlobals]
abbrev Fc := PySem.W.Frag → Bool
def obsX (fa : List Fc) (fn : List He.DefD) (K : PySem.W.Frag) : He.AlD := ((fa.all fun f => f K) && fn.all fun d => d.ok K, fn.map fun d => He.fnW K d.at_)
def valX (fn : List He.DefD) : He.AlD := (true, fn.map He.DefD.val)
def SaysX (fa : List Fc) (fn : List He.DefD) (K : PySem.W.Frag) : Prop := obsX fa fn K = valX fn
def obsXG (n : Nat) (fa : List Fc) (fn : List He.DefD) (g : Addr → Option Obj) : He.AlD := obsX fa fn (He.frG g (asX g n))
def hookX (n : Nat) (fa : List Fc) (fn : List He.DefD) : PySem.W.Hook where
  α := He.AlD
  obs := fun s => obsXG n fa fn s.heap.get?
  val := fun _ => valX fn
  says := fun _ h => ∃ K : PySem.W.Frag, K.In h ∧ SaysX fa fn K
  of := fun _ _ e => ⟨_, He.frG_in, e⟩
  keeps := fun _ _ _ ⟨K, hK, c⟩ k => ⟨K, PySem.W.Frag.In.keeps hK k, c⟩
theorem obsXG_eq {n : Nat} {fa : List Fc} {fn : List He.DefD} {g : Addr → Option Obj} {s : Shared} (h : ∀ a, g a = s.heap.get? a) : obsXG n fa fn g = (hookX n fa fn).obs s := by
  have e : g = s.heap.get? := funext h
  rw [e] <;> rfl
section
variable {fa : List Fc} {fn : List He.DefD} {K : PySem.W.Frag}
theorem SaysX.fact (c : SaysX fa fn K) (i : Nat) {f : Fc} (h : fa[i]? = some f := by rfl) : f K = true := by
  have c1 := (He.ba (show ((fa.all fun f => f K) && fn.all fun d => d.ok K) = true from congrArg (fun z : He.AlD => z.1) c)).1
  exact List.all_eq_true.mp c1 f (List.mem_of_getElem? h)
theorem SaysX.def_ (c : SaysX fa fn K) (i : Nat) {d : He.DefD} (h : fn[i]? = some d := by rfl) : ∃ fd, FunD K d.name d.qual d.params d.body d.scope (d.dvs K) (d.kws K) (He.fAd K d.at_) fd := by
  have c2 := (He.ba (show ((fa.all fun f => f K) && fn.all fun d => d.ok K) = true from congrArg (fun z : He.AlD => z.1) c)).2
  have e : fn.map (fun d => He.fnW K d.at_) = fn.map He.DefD.val := congrArg (fun z : He.AlD => z.2) c
  have e2 : (fn.map fun d => He.fnW K d.at_)[i]? = (fn.map He.DefD.val)[i]? := by rw [e]
  rw [List.getElem?_map, List.getElem?_map, h] at e2
  exact He.DefD.funD (Option.some.inj e2) (List.all_eq_true.mp c2 d (List.mem_of_getElem? h))
end
/-! ### facts -/
def fGlo (x : Str) : Fc := fun K => He.eqO (PySem.W.nsIn K mainGlobals x) (some (some (.ref (He.ga K x))))
def fFree (x : Str) : Fc := fun K => He.eqO (PySem.W.nsIn K mainGlobals x) (some none)
def fKeep (x : Str) : Fc := fun K => PySem.W.keepIn K (.ref (He.ga K x))
def fNoInts : Fc := fun K => K.all fun p => !isInts p.2
/-- an own exception class x of the attribute f -/
def fExc (x f : Str) (newId : String) (bmB : List Value) : Fc := fun K =>
  He.eqO (PySem.W.nsIn K mainGlobals x) (some (some (.ref (He.ga K x)))) && (PySem.W.excInitIn K (He.ga K x) bmB newId && (PySem.W.excOver K (He.ga K x) bmB && (PySem.W.hasDictIn K (He.ga K x) &&
  (He.eqO (PySem.W.findIn K (.ref (He.ga K x)) "__setattr__") (some (some (.builtin "object.__setattr__"))) && (He.eqO (PySem.W.findIn K (.ref (He.ga K x)) "__getattribute__") (some (some (.builtin "BaseException.__getattribute__"))) &&
  (He.eqO (PySem.W.findIn K (.ref (He.ga K x)) "__getattr__") (some none) && (He.eqO (PySem.W.findIn K (.ref (He.ga K x)) f) (some none) && (He.eqO (PySem.W.findIn K (.ref (He.ga K x)) "__init__") (some (some (.ref (He.ma K (He.ga K x) "__init__")))) &&
  (decide (PySem.W.typeIn K (.ref (He.ma K (He.ga K x) "__init__")) = some (.type "function")) && (PySem.W.keepIn K (.ref (He.ga K x)) && (decide (PySem.W.subIn K (.ref (He.ga K x)) (.type "BaseException") = some true) && decide (PySem.W.typeIn K (.ref (He.ga K x)) = some (.type "type")))))))))))))
/-- isinstance's answer -/
def fKit (t u : TyD) (b : Bool) : Fc := fun K => decide (PySem.W.kitOne K (t.v K) (u.v K) = some b)
def fTyX (x : Str) : Fc := fun K => PySem.W.hasDictIn K (He.ga K x) && (He.eqO (PySem.W.findIn K (.ref (He.ga K x)) "__getattribute__") (some (some (.builtin "BaseException.__getattribute__"))) &&
  (He.eqO (PySem.W.findIn K (.ref (He.ga K x)) "__getattr__") (some none) && (decide (PySem.W.subIn K (.ref (He.ga K x)) (.type "BaseException") = some true) &&
  (He.eqO (PySem.W.findIn K (.ref (He.ga K x)) "__class__") (some (some (.builtin "object.__class__"))) && decide (PySem.W.mroIn K (He.ga K x) (.type "object") = some true)))))
section
variable {K : PySem.W.Frag} {h : Heap} {mg : Str → Option Value}
theorem fGlo_ok (X : K.In h) (G : h.Ns mainGlobals mg) {x : Str} (c : fGlo x K = true) : mg x = some (.ref (He.ga K x)) := PySem.W.mg_of X G (He.eqO_ok c)
theorem fFree_ok (X : K.In h) (G : h.Ns mainGlobals mg) {x : Str} (c : fFree x K = true) : mg x = none := PySem.W.mg_none_of X G (He.eqO_ok c)
theorem fExc_ok (X : K.In h) (G : h.Ns mainGlobals mg) {x f qual : Str} {newId : String} {bmB : List Value} (B : XB newId bmB) (c : fExc x f newId bmB K = true) (bi : XBi f) (h1 : (f == ("self" : Str)) = false) (h2 : (f == ("__debug__" : Str)) = false)
    (fn : ∃ (fd : FuncData) (p1 p2 q1 q2 q3 q4 : Pos), FunD K "__init__" qual (xA f p1 p2) (xBd f q1 q2 q3 q4) (xSc f) [] [] (He.ma K (He.ga K x) "__init__") fd) : XTxt K mg x f qual newId bmB := by
  unfold fExc at c
  simp only [Bool.and_eq_true] at c
  obtain ⟨c1, c2, c3, c4, c5, c6, c7, c8, c9, c10, c11, c12, c13⟩ := c
  exact ⟨B, PySem.W.mg_of X G (He.eqO_ok c1), c2, c3, c4, He.eqO_ok c5, He.eqO_ok c6, He.eqO_ok c7, He.eqO_ok c8, He.eqO_ok c9, of_decide_eq_true c10, c11, of_decide_eq_true c12, of_decide_eq_true c13, bi, h1, h2, fn⟩
theorem fKit_ok {t u : TyD} {b : Bool} (c : fKit t u b K = true) : PySem.W.kitOne K (t.v K) (u.v K) = some b := of_decide_eq_true c
theorem fTyX_ok {x : Str} (c : fTyX x K = true) : PySem.W.hasDictIn K (He.ga K x) = true ∧ PySem.W.findIn K (.ref (He.ga K x)) "__getattribute__" = some (some (.builtin "BaseException.__getattribute__")) ∧ PySem.W.findIn K (.ref (He.ga K x)) "__getattr__" = some none ∧
    PySem.W.subIn K (.ref (He.ga K x)) (.type "BaseException") = some true ∧ PySem.W.findIn K (.ref (He.ga K x)) "__class__" = some (some (.builtin "object.__class__")) ∧ PySem.W.mroIn K (He.ga K x) (.type "object") = some true := by
  unfold fTyX at c
  simp only [Bool.and_eq_true] at c
  obtain ⟨c1, c2, c3, c4, c5, c6⟩ := c
  exact ⟨c1, He.eqO_ok c2, He.eqO_ok c3, of_decide_eq_true c4, He.eqO_ok c5, of_decide_eq_true c6⟩
/-- what every def of a law leans on -/
structure Up (fa : List Fc) (fn : List He.DefD) (K : PySem.W.Frag) (mg : Str → Option Value) : Prop where
  at_ : ∃ h : Heap, K.In h ∧ h.Ns mainGlobals mg
  c : SaysX fa fn K
section
variable {fa : List Fc} {fn : List He.DefD}
theorem Up.glo (U : Up fa fn K mg) (i : Nat) {x : Str} (e : fa[i]? = some (fGlo x) := by rfl) : mg x = some (.ref (He.ga K x)) := by
  obtain ⟨h, X, G⟩ := U.at_
  exact fGlo_ok X G (U.c.fact i e)
theorem Up.free (U : Up fa fn K mg) (i : Nat) {x : Str} (e : fa[i]? = some (fFree x) := by rfl) : mg x = none := by
  obtain ⟨h, X, G⟩ := U.at_
  exact fFree_ok X G (U.c.fact i e)
end
/-! ### the law's end -/
/-- the script, in the store -/
theorem law_spec {g : Bk} {H : Hp} {a : Addr} {ns : List Int} (hK : fNoInts K = true) (hS : SqL K H a (ns.map V.int)) (hg : ∃ S', g [.loc 0] [.ro (ns.map D.int)] = .ok (.bl true) S') :
    spD K 1 g [.ref a] H (fun v _ => v = .bl true) fun _ _ _ => False := by
  have rvs : ∀ l : List Int, RVs K H [a] (l.map D.int) (l.map V.int) := fun l => by
    induction l with
    | nil => exact RVs.nil
    | cons x r ih => exact RVs.cons (rv_int x) ih
  rcases hS with h | ⟨o, its, m, hk, hc, _, hd, _, hv⟩
  · refine ⟨[.loc 0], [.ro (ns.map D.int)], [a], rfl, ⟨rfl, by simp, fun l b ob h1 h2 => ?_⟩, RVs.one (by simp only [RV]; exact ⟨a, rfl, rfl⟩), ?_⟩
    · cases l with
      | zero =>
        cases h1
        cases h2
        exact ⟨ns.map V.int, h, rvs ns⟩
      | succ l => cases h2
    · obtain ⟨S', e⟩ := hg
      rw [e]
      intro ρ' H' x _ _ rv
      simpa only [RV] using rv
  · exfalso
    have z := List.all_eq_true.mp hK (a, o) (lookup_mem' hk)
    obtain ⟨oc, od, dt, sl⟩ := o
    dsimp only at hc hd
    subst hc hd
    have z2 : isInts ⟨.type "list", od, .seq its m, sl⟩ = true := by
      have key : ∀ (l : List Int) (us : List Value), Vals (l.map V.int) us → (us.all fun v => match v with
        | .int _ _ => true
        | _ => false) = true := by
        intro l
        induction l with
        | nil => intro us r; cases r; rfl
        | cons x r ih =>
          intro us q
          cases q with
          | cons q1 q2 =>
            obtain ⟨t, rfl⟩ := q1
            rw [List.all_cons, ih _ q2]; rfl
      exact key ns _ hv
    rw [z2] at z
    cases z
where
  lookup_mem' {a : Addr} {o : Obj} : ∀ {K : PySem.W.Frag}, K.lookup a = some o → (a, o) ∈ K
    | (b, u) :: r, h => by
      rw [List.lookup_cons] at h
      cases e : a == b with
      | true =>
        rw [e] at h
        cases h
        rw [eq_of_beq e]
        exact List.mem_cons_self
      | false =>
        rw [e] at h
        exact List.mem_cons_of_mem _ (lookup_mem' h)
end
end Ev

/-! Ev9: isinstance by a table, defs as they are called. -/
namespace Ev
open PySem PySem.Spec PyProof.Rows L2

/-- the classes of a law: (name, is an exception, own ancestors with itself, built-in ancestors); built-in types; pairs of these -/
structure IsD where
  tys : List String
  cls : List (Str × Bool × List Str × List String)
  tt : List ((String × String) × Bool)
def IsD.names (d : IsD) : List Str := d.cls.map (·.1)
def IsD.at_ (d : IsD) (C : Str) : Option (Bool × List Str × List String) := d.cls.lookup C
def IsD.tb (d : IsD) : TyD → TyD → Option Bool
  | .ty n, .ty m => d.tt.lookup (n, m)
  | .ty n, .own C => if n ∈ d.tys ∧ C ∈ d.names then some false else none
  | .exc C, .own D => match d.at_ C with
    | some (true, ow, _) => if D ∈ d.names then some (decide (D ∈ ow)) else none
    | _ => none
  | .exc C, .ty m => match d.at_ C with
    | some (true, _, bs) => if m ∈ d.tys then some (decide (m ∈ bs)) else none
    | _ => none
  | .own C, .own D => match d.at_ C with
    | some (false, ow, _) => if D ∈ d.names then some (decide (D ∈ ow)) else none
    | _ => none
  | .own C, .ty m => match d.at_ C with
    | some (false, _, bs) => if m ∈ d.tys then some (decide (m ∈ bs)) else none
    | _ => none
  | _, .exc _ => none
def fTyO (x : Str) : Fc := fun K => (He.Fa.cls x).ok K && (He.eqO (PySem.W.findIn K (.ref (He.ga K x)) "__class__") (some (some (.builtin "object.__class__"))) && decide (PySem.W.mroIn K (He.ga K x) (.type "object") = some true))
def fIs (d : IsD) : Fc := fun K => (d.tt.all fun p => fKit (.ty p.1.1) (.ty p.1.2) p.2 K) && ((d.tys.all fun n => d.names.all fun C => fKit (.ty n) (.own C) false K) &&
  (d.cls.all fun p => (match p.2.1 with
    | true => fTyX p.1 K
    | false => fTyO p.1 K) && ((d.names.all fun D => fKit (.own p.1) (.own D) (decide (D ∈ p.2.2.1)) K) && (d.tys.all fun m => fKit (.own p.1) (.ty m) (decide (m ∈ p.2.2.2)) K))))
theorem lookup_mem {α β : Type} [BEq α] [LawfulBEq α] {a : α} {b : β} : ∀ {l : List (α × β)}, l.lookup a = some b → (a, b) ∈ l
  | (c, d) :: r, h => by
    rw [List.lookup_cons] at h
    cases e : a == c with
    | true =>
      rw [e] at h
      cases h
      rw [eq_of_beq e]
      exact List.mem_cons_self
    | false =>
      rw [e] at h
      exact List.mem_cons_of_mem _ (lookup_mem h)
theorem isOk_of {d : IsD} {K : PySem.W.Frag} (h : fIs d K = true) : IsOk K d.tb := by
  unfold fIs at h
  simp only [Bool.and_eq_true, List.all_eq_true] at h
  obtain ⟨h1, h2, h3⟩ := h
  have cl : ∀ C e ow bs, d.at_ C = some (e, ow, bs) → (match e with
    | true => fTyX C K
    | false => fTyO C K) = true ∧ (∀ D ∈ d.names, fKit (.own C) (.own D) (decide (D ∈ ow)) K = true) ∧ ∀ m ∈ d.tys, fKit (.own C) (.ty m) (decide (m ∈ bs)) K = true := fun C e ow bs q => by
    have z := h3 _ (lookup_mem q)
    exact ⟨z.1, z.2.1, z.2.2⟩
  refine ⟨fun t u b q => ?_, fun C u b q => ?_, fun C u b q => ?_⟩
  · cases t with
    | ty n =>
      cases u with
      | ty m => exact fKit_ok (h1 _ (lookup_mem q))
      | own C =>
        simp only [IsD.tb] at q
        split at q
        · rename_i z
          cases q
          exact fKit_ok (h2 n z.1 C z.2)
        · cases q
      | exc C => cases q
    | own C =>
      cases u with
      | exc D => cases q
      | own D =>
        simp only [IsD.tb] at q
        split at q
        · rename_i ow bs e
          split at q
          · rename_i z
            cases q
            exact fKit_ok ((cl _ _ _ _ e).2.1 D z)
          · cases q
        · cases q
      | ty m =>
        simp only [IsD.tb] at q
        split at q
        · rename_i ow bs e
          split at q
          · rename_i z
            cases q
            exact fKit_ok ((cl _ _ _ _ e).2.2 m z)
          · cases q
        · cases q
    | exc C =>
      cases u with
      | exc D => cases q
      | own D =>
        simp only [IsD.tb] at q
        split at q
        · rename_i ow bs e
          split at q
          · rename_i z
            cases q
            exact fKit_ok ((cl _ _ _ _ e).2.1 D z)
          · cases q
        · cases q
      | ty m =>
        simp only [IsD.tb] at q
        split at q
        · rename_i ow bs e
          split at q
          · rename_i z
            cases q
            exact fKit_ok ((cl _ _ _ _ e).2.2 m z)
          · cases q
        · cases q
  · have key : ∃ ow bs, d.at_ C = some (false, ow, bs) := by
      cases u with
      | exc D => cases q
      | own D =>
        simp only [IsD.tb] at q
        split at q
        · rename_i ow bs e; exact ⟨ow, bs, e⟩
        · cases q
      | ty m =>
        simp only [IsD.tb] at q
        split at q
        · rename_i ow bs e; exact ⟨ow, bs, e⟩
        · cases q
    obtain ⟨ow, bs, e⟩ := key
    have z := (cl _ _ _ _ e).1
    have z : fTyO C K = true := z
    unfold fTyO at z
    simp only [Bool.and_eq_true] at z
    exact ⟨He.cls_ok z.1, He.eqO_ok z.2.1, of_decide_eq_true z.2.2⟩
  · have key : ∃ ow bs, d.at_ C = some (true, ow, bs) := by
      cases u with
      | exc D => cases q
      | own D =>
        simp only [IsD.tb] at q
        split at q
        · rename_i ow bs e; exact ⟨ow, bs, e⟩
        · cases q
      | ty m =>
        simp only [IsD.tb] at q
        split at q
        · rename_i ow bs e; exact ⟨ow, bs, e⟩
        · cases q
    obtain ⟨ow, bs, e⟩ := key
    exact fTyX_ok (cl _ _ _ _ e).1

/-! defs as they are called -/
def bFn (n : Nat) (f : Bk) : Bk := fun ds S => if ds.length = n then f ds S else .bad
section
variable {P : Program} {w : World} {K : PySem.W.Frag} {mg : Str → Option Value} {base : Heap} {f : Addr} {fd : FuncData} {ps : List Str} {k n : Nat} {fs : Bk}
theorem fnR_of (F : FnOk P w K mg base (L2.CX P w) k f fd ps (spD K n fs)) (hb : Binds K fd ps []) : FnR P w K mg base (L2.CX P w) k f (spF K (bFn n fs)) :=
  (F.raw hb .nil).imp fun vs H Q E ⟨xs, S, ρ, rs, rv, q⟩ => by
    unfold bFn at q
    split at q
    · rename_i hl
      exact ⟨xs, S, ρ, hl, rs, by rw [List.append_nil]; exact rv, q⟩
    · exact q.elim
theorem GFn.mono {x : Str} {j : Nat} (G : GFn P w K mg base x j fs) (h : j ≤ k) : GFn P w K mg base x k fs := ⟨G.at_, G.kp, G.fn.mono h⟩
end
theorem u65 {k : Nat} {A : Around} (r : Room k A) : A.units + 65 < cLine := by have := r.un; omega
theorem exists_xtxt {X : Cx} {x f qual : Str} {newId : String} {bmB : List Value} (T : XTxt X.K X.mg x f qual newId bmB) : XOk X x f := ⟨qual, newId, bmB, T⟩

/-! a, b = x, y by names -/
def sPar (i j : Nat) (g : Ag) : Sg := fun e S => (g e S).bind fun ds S1 => match ds with
  | [a, b] => .ok (.nx ((e.set i (some a)).set j (some b))) S1
  | _ => .bad
def sPar3 (i j l : Nat) (g : Ag) : Sg := fun e S => (g e S).bind fun ds S1 => match ds with
  | [a, b, c] => .ok (.nx (((e.set i (some a)).set j (some b)).set l (some c))) S1
  | _ => .bad
section
variable {X : Cx} {W : WX} {a b c : Expr} {pos : Pos} {ga : Ag}
theorem es_par {i j : Nat} {x y : Str} {px py pt : Pos} {kt k2 pt2} (hc : X.calm = true) (hN : X.N.Nodup) (hi : X.N[i]? = some x) (hj : X.N[j]? = some y) (hij : i ≠ j)
    (hx : X.env.scope.names.lookup x = some .local) (hy : X.env.scope.names.lookup y = some .local) (ha : EA X W [a, b] ga)
    (hw : swappedStores [.Tuple [.Name x px, .Name y py] kt pt] (.Tuple [a, b] k2 pt2) X.env = pure (some [x, y]))
    (hs : swapsWithSole [.Tuple [.Name x px, .Name y py] kt pt] (.Tuple [a, b] k2 pt2) pos.line X.env = pure false := by rfl) :
    ES X W (.Assign [.Tuple [.Name x px, .Name y py] kt pt] (.Tuple [a, b] k2 pt2) pos) (sPar i j ga) := PS.by (ps_par hc hN hi hj hij hx hy ha hw hs) fun D' σ H ⟨en, S, ρ, rs, re, q⟩ => by
  refine ⟨en, S, ρ, rs, re, (AftS.split (σ := σ) q).imp ?_⟩
  rintro vs H1 ⟨ds, S1, ρ1, r1, x1, rv, q1⟩
  split at q1
  · obtain ⟨v, w, rfl, r2, r3⟩ := RVs.two_inv rv
    exact ⟨v, w, rfl, q1 ρ1 H1 r1 .refl _ (((re.mono x1).set i r2).set j r3)⟩
  · exact q1.elim
theorem es_par3 {i j l : Nat} {x y z : Str} {px py pz pt : Pos} {kt k2 pt2} (hc : X.calm = true) (hN : X.N.Nodup) (hi : X.N[i]? = some x) (hj : X.N[j]? = some y) (hl : X.N[l]? = some z) (hij : i ≠ j) (hil : i ≠ l) (hjl : j ≠ l)
    (hx : X.env.scope.names.lookup x = some .local) (hy : X.env.scope.names.lookup y = some .local) (hz : X.env.scope.names.lookup z = some .local) (ha : EA X W [a, b, c] ga)
    (hw : swappedStores [.Tuple [.Name x px, .Name y py, .Name z pz] kt pt] (.Tuple [a, b, c] k2 pt2) X.env = pure (some [x, y, z]))
    (hs : swapsWithSole [.Tuple [.Name x px, .Name y py, .Name z pz] kt pt] (.Tuple [a, b, c] k2 pt2) pos.line X.env = pure false := by rfl) :
    ES X W (.Assign [.Tuple [.Name x px, .Name y py, .Name z pz] kt pt] (.Tuple [a, b, c] k2 pt2) pos) (sPar3 i j l ga) := PS.by (ps_par3 hc hN hi hj hl hij hil hjl hx hy hz ha hw hs) fun D' σ H ⟨en, S, ρ, rs, re, q⟩ => by
  refine ⟨en, S, ρ, rs, re, (AftS.split (σ := σ) q).imp ?_⟩
  rintro vs H1 ⟨ds, S1, ρ1, r1, x1, rv, q1⟩
  split at q1
  · obtain ⟨u, r, rfl, r2, r3⟩ := RVs.cons_inv rv
    obtain ⟨v, w, rfl, r4, r5⟩ := RVs.two_inv r3
    exact ⟨u, v, w, rfl, q1 ρ1 H1 r1 .refl _ ((((re.mono x1).set i r2).set j r4).set l r5)⟩
  · exact q1.elim
end

/-- nothing leaves the law -/
theorem fnOk0 {P : Program} {w : World} {K : PySem.W.Frag} {mg : Str → Option Value} {base : Heap} {f : Addr} {fd : FuncData} {ps : List Str} {k : Nat} {sp : Sp} (F : FnOk P w K mg base (L2.CX P w) k f fd ps sp) : FnOk P w K mg base L2.CX0 k f fd ps (fun vs H Q _ => sp vs H Q fun _ _ _ => False) := by
  refine ⟨fun vs H Q E h => F.len _ _ _ _ h, fun A outer s H args us vs Q E hr e0 hb r h => codeAny_mono (F.run A outer s H args us vs Q (fun _ _ _ => False) hr e0 hb r h) fun r s' q => ?_⟩
  cases r with
  | error e =>
    obtain ⟨_, _, _, _, _, _, _, _, _, _, _, _, z⟩ := q
    exact z.elim
  | ok fl => cases fl <;> exact q
end Ev

/-! Ev10: lemmas for the plain laws: stores that grow, loops. -/
namespace Ev
open PySem PySem.Spec PyProof.Rows L2
theorem get_at (S T : Store) (k : Nat) : (S ++ T)[S.length + k]? = T[k]? := by rw [List.getElem?_append_right (by omega)]; congr 1; omega
theorem get_at0 (S T : Store) : (S ++ T)[S.length]? = T[0]? := by rw [List.getElem?_append_right (Nat.le_refl _)]; congr 1; omega
theorem set_at (S T : Store) (k : Nat) (o : O) : (S ++ T).set (S.length + k) o = S ++ T.set k o := by rw [List.set_append_right _ _ (by omega)]; congr 2; omega
theorem set_at0 (S T : Store) (o : O) : (S ++ T).set S.length o = S ++ T.set 0 o := by rw [List.set_append_right _ _ (Nat.le_refl _)]; congr 2; omega
theorem get_app {S T : Store} {l : Nat} {o : O} (h : S[l]? = some o) : (S ++ T)[l]? = some o := by
  rw [List.getElem?_append_left (List.getElem?_eq_some_iff.mp h).1]; exact h
theorem lst_app {S T : Store} {l : Nat} {ds : List D} (h : lstAt S l = some ds) : lstAt (S ++ T) l = some ds := by
  unfold lstAt at h ⊢
  cases e : S[l]? with
  | none => rw [e] at h; cases h
  | some o => rw [get_app e]; rw [e] at h; exact h
theorem lstAt_of {S : Store} {l : Nat} {ds : List D} (h : S[l]? = some (.lst ds)) : lstAt S l = some ds := by unfold lstAt; rw [h]
theorem newL_ok {ds : List D} {S : Store} (h : ds.length ≤ 1000) : newL ds S = .ok (.loc S.length) (S ++ [.lst ds]) := by
  unfold newL
  rw [if_pos (Nat.le_trans h (by decide))]
theorem bind_ok {α β : Type} {o : Out α} {a : α} {S : Store} {g : α → Store → Out β} (h : o = .ok a S) : o.bind g = g a S := by rw [h]; rfl
/-! tuples -/
theorem eTup_ok {g : Ag} {e : Env} {S S1 : Store} {ds : List D} (h : g e S = .ok ds S1) (hl : ds.length ≤ 1000) : eTup g e S = .ok (.tup ds) S1 := by
  unfold eTup
  rw [h, Out.bind_ok, if_pos (Nat.le_trans hl (by decide))]
/-! a comprehension over what doesn't change, its element a value -/
theorem lc_go {n : Nat} {d : Nat → D} {f : Ex} {v : Nat → D} {i : Nat} {e : Env} {S : Store} (hn : n < 1000) (hf : ∀ j, j < n → ∀ T, f (e.set i (some (d j))) (S ++ T) = .ok (v j) (S ++ T)) (src : Src) (hs : ∀ j T, src.next j (S ++ T) = some (if j < n then some (d j) else none)) :
    ∀ m k, k + m = n → lcN m k src (gN i) tYesE f S.length e (S ++ [.lst ((List.range k).map v)]) = .ok (.loc S.length) (S ++ [.lst ((List.range n).map v)]) := by
  intro m
  induction m with
  | zero =>
    intro k hk
    obtain rfl : k = n := by omega
    unfold lcN
    rw [hs]
    simp
  | succ m ih =>
    intro k hk
    unfold lcN
    rw [hs, if_pos (by omega)]
    have hfk := hf k (by omega) [.lst ((List.range k).map v)]
    simp only [gN, Out.bind_ok, Out.noX, tYesE, if_true, hfk, get_at0, List.getElem?_cons_zero]
    have hl : ((List.range k).map v).length < sizeLine := by
      rw [List.length_map, List.length_range]
      exact Nat.lt_of_lt_of_le (show k < 1000 by omega) (by decide)
    simp only [hl, if_true]
    have e2 : (S ++ [O.lst ((List.range k).map v)]).set S.length (.lst ((List.range k).map v ++ [v k])) = S ++ [.lst ((List.range (k + 1)).map v)] := by
      rw [List.set_append_right _ _ (Nat.le_refl _)]
      simp [List.range_succ]
    rw [e2]
    exact ih (k + 1) (by omega)
theorem src_ints {lo : Int} {n j : Nat} {S : Store} : (srcOf (intsD lo n)).next j S = some (if j < n then some (.int (lo + (j : Int))) else none) := by
  simp only [srcOf, intsD, List.getElem?_map]
  by_cases h : j < n
  · rw [List.getElem?_range h, if_pos h]; rfl
  · rw [List.getElem?_eq_none (by simpa using Nat.le_of_not_lt h), if_neg h]; rfl
theorem lc_range {n : Nat} {f : Ex} {v : Nat → D} {i : Nat} {e : Env} {S : Store} {it : Ig} {vs : List Nat} (hit : it e S = .ok (srcOf (intsD 0 n)) S) (hn : n < 1000)
    (hf : ∀ j, j < n → ∀ T, f ((wipeE e vs).set i (some (.int (j : Int)))) (S ++ T) = .ok (v j) (S ++ T)) : eLc it (gN i) tYesE f vs e S = .ok (.loc S.length) (S ++ [.lst ((List.range n).map v)]) := by
  unfold eLc
  rw [hit, Out.bind_ok]
  have hfuel : (srcOf (intsD 0 n)).fuel = n := by simp [srcOf, intsD]
  rw [hfuel]
  exact lc_go (d := fun j => .int (j : Int)) hn hf _ (fun j T => by rw [src_ints]; simp) n 0 (by omega)
/-! a loop with an invariant -/
theorem for_inv {n : Nat} {src : Src} {d : Nat → D} {t : Tg} {g : Sg} (Inv : Nat → Env → Store → Prop) (hs : ∀ k e S, Inv k e S → src.next k S = some (if k < n then some (d k) else none))
    (step : ∀ k e S, k < n → Inv k e S → ∃ e1 S1 e2 S2, t (d k) e S = .ok e1 S1 ∧ g e1 S1 = .ok (.nx e2) S2 ∧ Inv (k + 1) e2 S2) :
    ∀ m k e S, k + m = n → Inv k e S → ∃ e' S', forN m k src t g e S = .ok (.nx e') S' ∧ Inv n e' S' := by
  intro m
  induction m with
  | zero =>
    intro k e S hk hI
    obtain rfl : k = n := by omega
    refine ⟨e, S, ?_, hI⟩
    unfold forN
    rw [hs _ _ _ hI]
    simp
  | succ m ih =>
    intro k e S hk hI
    obtain ⟨e1, S1, e2, S2, h1, h2, h3⟩ := step k e S (by omega) hI
    obtain ⟨e', S', h4, h5⟩ := ih (k + 1) e2 S2 (by omega) h3
    refine ⟨e', S', ?_, h5⟩
    unfold forN
    rw [hs _ _ _ hI, if_pos (show k < n by omega)]
    simp only [h1, h2, Out.bind_ok]
    exact h4
theorem sfor_inv {n : Nat} {src : Src} {d : Nat → D} {it : Ig} {t : Tg} {g : Sg} {e : Env} {S S1 : Store} (Inv : Nat → Env → Store → Prop) (hit : it e S = .ok src S1) (hfu : src.fuel = n) (hs : ∀ k e S, Inv k e S → src.next k S = some (if k < n then some (d k) else none))
    (step : ∀ k e S, k < n → Inv k e S → ∃ e1 S1 e2 S2, t (d k) e S = .ok e1 S1 ∧ g e1 S1 = .ok (.nx e2) S2 ∧ Inv (k + 1) e2 S2) (h0 : Inv 0 e S1) : ∃ e' S', sFor it t g e S = .ok (.nx e') S' ∧ Inv n e' S' := by
  unfold sFor
  rw [hit, Out.bind_ok, hfu]
  exact for_inv Inv hs step n 0 e S1 (by omega) h0
theorem sSeq_ok {f g : Sg} {e e1 : Env} {S S1 : Store} (h : f e S = .ok (.nx e1) S1) : sSeq f g e S = g e1 S1 := by
  unfold sSeq; rw [h]; rfl
theorem sAsg_ok {f : Ex} {i : Nat} {e : Env} {S S1 : Store} {d : D} (h : f e S = .ok d S1) : sAsg f (gN i) e S = .ok (.nx (e.set i (some d))) S1 := by
  unfold sAsg; rw [h]; rfl
theorem sRet_ok {f : Ex} {e : Env} {S S1 : Store} {d : D} (h : f e S = .ok d S1) : sRet f e S = .ok (.rt d) S1 := by
  unfold sRet; rw [h]; rfl
theorem sIf_ok {t : Te} {f g : Sg} {e : Env} {S S1 : Store} {b : Bool} (h : t e S = .ok b S1) : sIf t f g e S = if b = true then f e S1 else g e S1 := by
  unfold sIf; rw [h]; rfl
theorem eCall_ok {g : Ag} {k : Bk} {e : Env} {S S1 : Store} {ds : List D} (h : g e S = .ok ds S1) : eCall g k e S = k ds S1 := by
  unfold eCall; rw [h]; rfl
theorem fn_rt {n N : Nat} {g : Sg} {ds : List D} {S S1 : Store} {d : D} (hn : ds.length = n) (h : g (startE N ds) S = .ok (.rt d) S1) : bFn n (fnS N g) ds S = .ok d S1 := by
  unfold bFn fnS; rw [if_pos hn, h]; rfl
theorem dEq_int (a b : Int) (S : Store) : dEq (.int a) (.int b) S = .ok (.bl (decide (a = b))) S := by
  have h1 : ∀ x : Int, SeqAt.shaped (.int x) = true := fun x => rfl
  have h2 : PyData.eqv (.int a) (.int b) = decide (a = b) := by
    rw [PyData.eqv]
    by_cases h : a = b
    · simp [h]
    · simp [h]
  simp only [dEq, dEqB, toPy, pyD, h1, and_self, if_true, h2]
end Ev

namespace K27
open PySem PySem.Spec PyProof.Rows L2 Ev
def top (i : Nat) : Stmt := PySem.Challenge.pw_selfchains_k27_errors_by_hand.main.body.getD i (.Pass ⟨0, 0, 0, 0⟩)
def d__law_bag : He.DefD := ⟨("_law_bag", none), "_law_bag", "_law_bag", defArgs (top 23), defBody (top 23), defScope (top 23), [], []⟩
def d__law_bases : He.DefD := ⟨("_law_bases", none), "_law_bases", "_law_bases", defArgs (top 29), defBody (top 29), defScope (top 29), [], []⟩
def d__law_classes : He.DefD := ⟨("_law_classes", none), "_law_classes", "_law_classes", defArgs (top 28), defBody (top 28), defScope (top 28), [], []⟩
def d__law_take : He.DefD := ⟨("_law_take", none), "_law_take", "_law_take", defArgs (top 24), defBody (top 24), defScope (top 24), [], []⟩
def d__law_of : He.DefD := ⟨("_law_of", none), "_law_of", "_law_of", defArgs (top 25), defBody (top 25), defScope (top 25), [], []⟩
def d__law_others : He.DefD := ⟨("_law_others", none), "_law_others", "_law_others", defArgs (top 27), defBody (top 27), defScope (top 27), [], []⟩
def d__law_values : He.DefD := ⟨("_law_values", none), "_law_values", "_law_values", defArgs (top 26), defBody (top 26), defScope (top 26), [], []⟩
def d_law : He.DefD := ⟨("law", none), "law", "law", defArgs (top 30), defBody (top 30), defScope (top 30), [], []⟩
def dX_BadPart : He.DefD := ⟨("BadPart", some "__init__"), "__init__", "BadPart.__init__", defArgs (inClass (top 18) 0), defBody (inClass (top 18) 0), defScope (inClass (top 18) 0), [], []⟩
def dX_BadIndex : He.DefD := ⟨("BadIndex", some "__init__"), "__init__", "BadIndex.__init__", defArgs (inClass (top 17) 0), defBody (inClass (top 17) 0), defScope (inClass (top 17) 0), [], []⟩
def dX_BadPlace : He.DefD := ⟨("BadPlace", some "__init__"), "__init__", "BadPlace.__init__", defArgs (inClass (top 16) 0), defBody (inClass (top 16) 0), defScope (inClass (top 16) 0), [], []⟩
def dX_Refused : He.DefD := ⟨("Refused", some "__init__"), "__init__", "Refused.__init__", defArgs (inClass (top 21) 0), defBody (inClass (top 21) 0), defScope (inClass (top 21) 0), [], []⟩
def dX_TooMany : He.DefD := ⟨("TooMany", some "__init__"), "__init__", "TooMany.__init__", defArgs (inClass (top 20) 0), defBody (inClass (top 20) 0), defScope (inClass (top 20) 0), [], []⟩
def dX_NoStanding : He.DefD := ⟨("NoStanding", some "__init__"), "__init__", "NoStanding.__init__", defArgs (inClass (top 19) 0), defBody (inClass (top 19) 0), defScope (inClass (top 19) 0), [], []⟩
def dX_BadStanding : He.DefD := ⟨("BadStanding", some "__init__"), "__init__", "BadStanding.__init__", defArgs (inClass (top 5) 0), defBody (inClass (top 5) 0), defScope (inClass (top 5) 0), [], []⟩
def dX_BadTrouble : He.DefD := ⟨("BadTrouble", some "__init__"), "__init__", "BadTrouble.__init__", defArgs (inClass (top 8) 0), defBody (inClass (top 8) 0), defScope (inClass (top 8) 0), [], []⟩
def dX_BadCare : He.DefD := ⟨("BadCare", some "__init__"), "__init__", "BadCare.__init__", defArgs (inClass (top 10) 0), defBody (inClass (top 10) 0), defScope (inClass (top 10) 0), [], []⟩
def dX_Twice : He.DefD := ⟨("Twice", some "__init__"), "__init__", "Twice.__init__", defArgs (inClass (top 15) 0), defBody (inClass (top 15) 0), defScope (inClass (top 15) 0), [], []⟩
def dX_BadMove : He.DefD := ⟨("BadMove", some "__init__"), "__init__", "BadMove.__init__", defArgs (inClass (top 6) 0), defBody (inClass (top 6) 0), defScope (inClass (top 6) 0), [], []⟩
def dX_BadWatch : He.DefD := ⟨("BadWatch", some "__init__"), "__init__", "BadWatch.__init__", defArgs (inClass (top 3) 0), defBody (inClass (top 3) 0), defScope (inClass (top 3) 0), [], []⟩
def dX_BadStart : He.DefD := ⟨("BadStart", some "__init__"), "__init__", "BadStart.__init__", defArgs (inClass (top 2) 0), defBody (inClass (top 2) 0), defScope (inClass (top 2) 0), [], []⟩
def dX_BadRow : He.DefD := ⟨("BadRow", some "__init__"), "__init__", "BadRow.__init__", defArgs (inClass (top 1) 0), defBody (inClass (top 1) 0), defScope (inClass (top 1) 0), [], []⟩
def dX_BadLapse : He.DefD := ⟨("BadLapse", some "__init__"), "__init__", "BadLapse.__init__", defArgs (inClass (top 4) 0), defBody (inClass (top 4) 0), defScope (inClass (top 4) 0), [], []⟩
def dX_BadHarm : He.DefD := ⟨("BadHarm", some "__init__"), "__init__", "BadHarm.__init__", defArgs (inClass (top 9) 0), defBody (inClass (top 9) 0), defScope (inClass (top 9) 0), [], []⟩
def dX_BadRoom : He.DefD := ⟨("BadRoom", some "__init__"), "__init__", "BadRoom.__init__", defArgs (inClass (top 7) 0), defBody (inClass (top 7) 0), defScope (inClass (top 7) 0), [], []⟩
def dX_BadCommand : He.DefD := ⟨("BadCommand", some "__init__"), "__init__", "BadCommand.__init__", defArgs (inClass (top 12) 0), defBody (inClass (top 12) 0), defScope (inClass (top 12) 0), [], []⟩
def dX_BadText : He.DefD := ⟨("BadText", some "__init__"), "__init__", "BadText.__init__", defArgs (inClass (top 11) 0), defBody (inClass (top 11) 0), defScope (inClass (top 11) 0), [], []⟩
def dX_BadCount : He.DefD := ⟨("BadCount", some "__init__"), "__init__", "BadCount.__init__", defArgs (inClass (top 14) 0), defBody (inClass (top 14) 0), defScope (inClass (top 14) 0), [], []⟩
def dX_BadSwitch : He.DefD := ⟨("BadSwitch", some "__init__"), "__init__", "BadSwitch.__init__", defArgs (inClass (top 13) 0), defBody (inClass (top 13) 0), defScope (inClass (top 13) 0), [], []⟩
def isd : IsD := ⟨["int", "str", "bool", "NoneType", "list", "tuple", "ValueError", "LookupError", "OverflowError", "RuntimeError"], ([("BadRow", true, ["BadRow"], ["ValueError", "Exception", "BaseException", "object"]), ("BadStart", true, ["BadStart"], ["ValueError", "Exception", "BaseException", "object"]), ("BadWatch", true, ["BadWatch"], ["ValueError", "Exception", "BaseException", "object"]), ("BadLapse", true, ["BadLapse"], ["ValueError", "Exception", "BaseException", "object"]), ("BadStanding", true, ["BadStanding"], ["ValueError", "Exception", "BaseException", "object"]), ("BadMove", true, ["BadMove"], ["ValueError", "Exception", "BaseException", "object"]), ("BadRoom", true, ["BadRoom"], ["ValueError", "Exception", "BaseException", "object"]), ("BadTrouble", true, ["BadTrouble"], ["ValueError", "Exception", "BaseException", "object"]), ("BadHarm", true, ["BadHarm"], ["ValueError", "Exception", "BaseException", "object"]), ("BadCare", true, ["BadCare"], ["ValueError", "Exception", "BaseException", "object"]), ("BadText", true, ["BadText"], ["ValueError", "Exception", "BaseException", "object"]), ("BadCommand", true, ["BadCommand"], ["ValueError", "Exception", "BaseException", "object"]), ("BadSwitch", true, ["BadSwitch"], ["ValueError", "Exception", "BaseException", "object"]), ("BadCount", true, ["BadCount"], ["ValueError", "Exception", "BaseException", "object"]), ("Twice", true, ["Twice"], ["ValueError", "Exception", "BaseException", "object"]), ("BadPlace", true, ["BadPlace"], ["LookupError", "Exception", "BaseException", "object"]), ("BadIndex", true, ["BadIndex"], ["LookupError", "Exception", "BaseException", "object"]), ("BadPart", true, ["BadPart"], ["LookupError", "Exception", "BaseException", "object"]), ("NoStanding", true, ["NoStanding"], ["LookupError", "Exception", "BaseException", "object"]), ("TooMany", true, ["TooMany"], ["OverflowError", "ArithmeticError", "Exception", "BaseException", "object"]), ("Refused", true, ["Refused"], ["RuntimeError", "Exception", "BaseException", "object"])] : List (Str × Bool × List Str × List String)), ([(("int", "int"), true), (("int", "str"), false), (("int", "bool"), false), (("int", "list"), false), (("int", "tuple"), false), (("str", "int"), false), (("str", "str"), true), (("str", "bool"), false), (("str", "list"), false), (("str", "tuple"), false), (("bool", "int"), true), (("bool", "str"), false), (("bool", "bool"), true), (("bool", "list"), false), (("bool", "tuple"), false), (("NoneType", "int"), false), (("NoneType", "str"), false), (("NoneType", "bool"), false), (("NoneType", "list"), false), (("NoneType", "tuple"), false), (("list", "int"), false), (("list", "str"), false), (("list", "bool"), false), (("list", "list"), true), (("list", "tuple"), false)] : List ((String × String) × Bool)) ++ ([(("tuple", "int"), false), (("tuple", "str"), false), (("tuple", "bool"), false), (("tuple", "list"), false), (("tuple", "tuple"), true)] : List ((String × String) × Bool))⟩
theorem boot_range : bootBuiltins "range" = some (.type "range") := by decide +kernel
theorem boot_len : bootBuiltins "len" = some (.builtin "len") := by decide +kernel
theorem boot_min : bootBuiltins "min" = some (.builtin "min") := by decide +kernel
theorem boot_max : bootBuiltins "max" = some (.builtin "max") := by decide +kernel
theorem boot_bool : bootBuiltins "bool" = some (.type "bool") := by decide +kernel
theorem boot_isinstance : bootBuiltins "isinstance" = some (.builtin "isinstance") := by decide +kernel
theorem boot_enumerate : bootBuiltins "enumerate" = some (.type "enumerate") := by decide +kernel
theorem boot_int : bootBuiltins "int" = some (.type "int") := by decide +kernel
theorem boot_abs : bootBuiltins "abs" = some (.builtin "abs") := by decide +kernel
theorem boot_RuntimeError : bootBuiltins "RuntimeError" = some (.type "RuntimeError") := by decide +kernel
theorem boot_OverflowError : bootBuiltins "OverflowError" = some (.type "OverflowError") := by decide +kernel
theorem boot_LookupError : bootBuiltins "LookupError" = some (.type "LookupError") := by decide +kernel
theorem boot_ValueError : bootBuiltins "ValueError" = some (.type "ValueError") := by decide +kernel
def fa : List Fc := ([fNoInts, fGlo "law", fFree "range", fFree "len", fFree "min", fFree "max", fGlo "_law_bag", fGlo "_law_of", fGlo "_law_take", fGlo "_law_values", fGlo "_law_others", fFree "bool", fFree "isinstance", fIs isd, fGlo "_law_classes", fGlo "_law_bases", fFree "enumerate", fFree "int", fFree "abs", fFree "RuntimeError", fFree "OverflowError", fFree "LookupError", fFree "ValueError", fGlo "BadRoom", fGlo "BadMove"] : List Fc) ++ ([fGlo "BadStanding", fGlo "BadLapse", fGlo "BadWatch", fGlo "BadStart", fGlo "BadRow", fGlo "Twice", fGlo "BadCount", fGlo "BadSwitch", fGlo "BadCommand", fGlo "BadText", fGlo "BadCare", fGlo "BadHarm", fGlo "BadTrouble", fGlo "Refused", fGlo "TooMany", fGlo "NoStanding", fGlo "BadPart", fGlo "BadIndex", fGlo "BadPlace", fExc "BadPart" "name" "LookupError.__new__" [.type "LookupError", .type "Exception", .type "BaseException", .type "object"], fExc "BadIndex" "index" "LookupError.__new__" [.type "LookupError", .type "Exception", .type "BaseException", .type "object"], fExc "BadPlace" "place" "LookupError.__new__" [.type "LookupError", .type "Exception", .type "BaseException", .type "object"], fExc "Refused" "move" "RuntimeError.__new__" [.type "RuntimeError", .type "Exception", .type "BaseException", .type "object"], fExc "TooMany" "limit" "OverflowError.__new__" [.type "OverflowError", .type "ArithmeticError", .type "Exception", .type "BaseException", .type "object"], fExc "NoStanding" "standing" "LookupError.__new__" [.type "LookupError", .type "Exception", .type "BaseException", .type "object"]] : List Fc) ++ ([fExc "BadStanding" "standing" "ValueError.__new__" [.type "ValueError", .type "Exception", .type "BaseException", .type "object"], fExc "BadTrouble" "name" "ValueError.__new__" [.type "ValueError", .type "Exception", .type "BaseException", .type "object"], fExc "BadCare" "name" "ValueError.__new__" [.type "ValueError", .type "Exception", .type "BaseException", .type "object"], fExc "Twice" "name" "ValueError.__new__" [.type "ValueError", .type "Exception", .type "BaseException", .type "object"], fExc "BadMove" "move" "ValueError.__new__" [.type "ValueError", .type "Exception", .type "BaseException", .type "object"], fExc "BadWatch" "watch" "ValueError.__new__" [.type "ValueError", .type "Exception", .type "BaseException", .type "object"], fExc "BadStart" "word" "ValueError.__new__" [.type "ValueError", .type "Exception", .type "BaseException", .type "object"], fExc "BadRow" "row" "ValueError.__new__" [.type "ValueError", .type "Exception", .type "BaseException", .type "object"], fExc "BadLapse" "lapse" "ValueError.__new__" [.type "ValueError", .type "Exception", .type "BaseException", .type "object"], fExc "BadHarm" "word" "ValueError.__new__" [.type "ValueError", .type "Exception", .type "BaseException", .type "object"], fExc "BadRoom" "room" "ValueError.__new__" [.type "ValueError", .type "Exception", .type "BaseException", .type "object"], fExc "BadCommand" "command" "ValueError.__new__" [.type "ValueError", .type "Exception", .type "BaseException", .type "object"], fExc "BadText" "text" "ValueError.__new__" [.type "ValueError", .type "Exception", .type "BaseException", .type "object"], fExc "BadCount" "count" "ValueError.__new__" [.type "ValueError", .type "Exception", .type "BaseException", .type "object"], fExc "BadSwitch" "value" "ValueError.__new__" [.type "ValueError", .type "Exception", .type "BaseException", .type "object"]] : List Fc)
def fn : List He.DefD := ([d__law_bag, d__law_bases, d__law_classes, d__law_take, d__law_of, d__law_others, d__law_values, d_law, dX_BadPart, dX_BadIndex, dX_BadPlace, dX_Refused, dX_TooMany, dX_NoStanding, dX_BadStanding, dX_BadTrouble, dX_BadCare, dX_Twice, dX_BadMove, dX_BadWatch, dX_BadStart, dX_BadRow, dX_BadLapse, dX_BadHarm, dX_BadRoom] : List He.DefD) ++ ([dX_BadCommand, dX_BadText, dX_BadCount, dX_BadSwitch] : List He.DefD)
section
variable {P : Program} {w : World} {K : PySem.W.Frag} {mg : Str → Option Value} {base : Heap}
theorem x_BadPart (U : Up fa fn K mg) : XTxt K mg "BadPart" "name" "BadPart.__init__" "LookupError.__new__" [.type "LookupError", .type "Exception", .type "BaseException", .type "object"] := by
  obtain ⟨h, X, G⟩ := U.at_
  obtain ⟨fd, F⟩ := U.c.def_ 8 (d := dX_BadPart) rfl
  exact fExc_ok X G xb_LE (U.c.fact 44 rfl) (fun _ _ _ _ _ _ _ _ _ _ _ _ _ _ _ => rfl) (by decide) (by decide) ⟨fd, _, _, _, _, _, _, F⟩
theorem x_BadIndex (U : Up fa fn K mg) : XTxt K mg "BadIndex" "index" "BadIndex.__init__" "LookupError.__new__" [.type "LookupError", .type "Exception", .type "BaseException", .type "object"] := by
  obtain ⟨h, X, G⟩ := U.at_
  obtain ⟨fd, F⟩ := U.c.def_ 9 (d := dX_BadIndex) rfl
  exact fExc_ok X G xb_LE (U.c.fact 45 rfl) (fun _ _ _ _ _ _ _ _ _ _ _ _ _ _ _ => rfl) (by decide) (by decide) ⟨fd, _, _, _, _, _, _, F⟩
theorem x_BadPlace (U : Up fa fn K mg) : XTxt K mg "BadPlace" "place" "BadPlace.__init__" "LookupError.__new__" [.type "LookupError", .type "Exception", .type "BaseException", .type "object"] := by
  obtain ⟨h, X, G⟩ := U.at_
  obtain ⟨fd, F⟩ := U.c.def_ 10 (d := dX_BadPlace) rfl
  exact fExc_ok X G xb_LE (U.c.fact 46 rfl) (fun _ _ _ _ _ _ _ _ _ _ _ _ _ _ _ => rfl) (by decide) (by decide) ⟨fd, _, _, _, _, _, _, F⟩
theorem x_Refused (U : Up fa fn K mg) : XTxt K mg "Refused" "move" "Refused.__init__" "RuntimeError.__new__" [.type "RuntimeError", .type "Exception", .type "BaseException", .type "object"] := by
  obtain ⟨h, X, G⟩ := U.at_
  obtain ⟨fd, F⟩ := U.c.def_ 11 (d := dX_Refused) rfl
  exact fExc_ok X G xb_RE (U.c.fact 47 rfl) (fun _ _ _ _ _ _ _ _ _ _ _ _ _ _ _ => rfl) (by decide) (by decide) ⟨fd, _, _, _, _, _, _, F⟩
theorem x_TooMany (U : Up fa fn K mg) : XTxt K mg "TooMany" "limit" "TooMany.__init__" "OverflowError.__new__" [.type "OverflowError", .type "ArithmeticError", .type "Exception", .type "BaseException", .type "object"] := by
  obtain ⟨h, X, G⟩ := U.at_
  obtain ⟨fd, F⟩ := U.c.def_ 12 (d := dX_TooMany) rfl
  exact fExc_ok X G xb_OE (U.c.fact 48 rfl) (fun _ _ _ _ _ _ _ _ _ _ _ _ _ _ _ => rfl) (by decide) (by decide) ⟨fd, _, _, _, _, _, _, F⟩
theorem x_NoStanding (U : Up fa fn K mg) : XTxt K mg "NoStanding" "standing" "NoStanding.__init__" "LookupError.__new__" [.type "LookupError", .type "Exception", .type "BaseException", .type "object"] := by
  obtain ⟨h, X, G⟩ := U.at_
  obtain ⟨fd, F⟩ := U.c.def_ 13 (d := dX_NoStanding) rfl
  exact fExc_ok X G xb_LE (U.c.fact 49 rfl) (fun _ _ _ _ _ _ _ _ _ _ _ _ _ _ _ => rfl) (by decide) (by decide) ⟨fd, _, _, _, _, _, _, F⟩
theorem x_BadStanding (U : Up fa fn K mg) : XTxt K mg "BadStanding" "standing" "BadStanding.__init__" "ValueError.__new__" [.type "ValueError", .type "Exception", .type "BaseException", .type "object"] := by
  obtain ⟨h, X, G⟩ := U.at_
  obtain ⟨fd, F⟩ := U.c.def_ 14 (d := dX_BadStanding) rfl
  exact fExc_ok X G xb_VE (U.c.fact 50 rfl) (fun _ _ _ _ _ _ _ _ _ _ _ _ _ _ _ => rfl) (by decide) (by decide) ⟨fd, _, _, _, _, _, _, F⟩
theorem x_BadTrouble (U : Up fa fn K mg) : XTxt K mg "BadTrouble" "name" "BadTrouble.__init__" "ValueError.__new__" [.type "ValueError", .type "Exception", .type "BaseException", .type "object"] := by
  obtain ⟨h, X, G⟩ := U.at_
  obtain ⟨fd, F⟩ := U.c.def_ 15 (d := dX_BadTrouble) rfl
  exact fExc_ok X G xb_VE (U.c.fact 51 rfl) (fun _ _ _ _ _ _ _ _ _ _ _ _ _ _ _ => rfl) (by decide) (by decide) ⟨fd, _, _, _, _, _, _, F⟩
theorem x_BadCare (U : Up fa fn K mg) : XTxt K mg "BadCare" "name" "BadCare.__init__" "ValueError.__new__" [.type "ValueError", .type "Exception", .type "BaseException", .type "object"] := by
  obtain ⟨h, X, G⟩ := U.at_
  obtain ⟨fd, F⟩ := U.c.def_ 16 (d := dX_BadCare) rfl
  exact fExc_ok X G xb_VE (U.c.fact 52 rfl) (fun _ _ _ _ _ _ _ _ _ _ _ _ _ _ _ => rfl) (by decide) (by decide) ⟨fd, _, _, _, _, _, _, F⟩
theorem x_Twice (U : Up fa fn K mg) : XTxt K mg "Twice" "name" "Twice.__init__" "ValueError.__new__" [.type "ValueError", .type "Exception", .type "BaseException", .type "object"] := by
  obtain ⟨h, X, G⟩ := U.at_
  obtain ⟨fd, F⟩ := U.c.def_ 17 (d := dX_Twice) rfl
  exact fExc_ok X G xb_VE (U.c.fact 53 rfl) (fun _ _ _ _ _ _ _ _ _ _ _ _ _ _ _ => rfl) (by decide) (by decide) ⟨fd, _, _, _, _, _, _, F⟩
theorem x_BadMove (U : Up fa fn K mg) : XTxt K mg "BadMove" "move" "BadMove.__init__" "ValueError.__new__" [.type "ValueError", .type "Exception", .type "BaseException", .type "object"] := by
  obtain ⟨h, X, G⟩ := U.at_
  obtain ⟨fd, F⟩ := U.c.def_ 18 (d := dX_BadMove) rfl
  exact fExc_ok X G xb_VE (U.c.fact 54 rfl) (fun _ _ _ _ _ _ _ _ _ _ _ _ _ _ _ => rfl) (by decide) (by decide) ⟨fd, _, _, _, _, _, _, F⟩
theorem x_BadWatch (U : Up fa fn K mg) : XTxt K mg "BadWatch" "watch" "BadWatch.__init__" "ValueError.__new__" [.type "ValueError", .type "Exception", .type "BaseException", .type "object"] := by
  obtain ⟨h, X, G⟩ := U.at_
  obtain ⟨fd, F⟩ := U.c.def_ 19 (d := dX_BadWatch) rfl
  exact fExc_ok X G xb_VE (U.c.fact 55 rfl) (fun _ _ _ _ _ _ _ _ _ _ _ _ _ _ _ => rfl) (by decide) (by decide) ⟨fd, _, _, _, _, _, _, F⟩
theorem x_BadStart (U : Up fa fn K mg) : XTxt K mg "BadStart" "word" "BadStart.__init__" "ValueError.__new__" [.type "ValueError", .type "Exception", .type "BaseException", .type "object"] := by
  obtain ⟨h, X, G⟩ := U.at_
  obtain ⟨fd, F⟩ := U.c.def_ 20 (d := dX_BadStart) rfl
  exact fExc_ok X G xb_VE (U.c.fact 56 rfl) (fun _ _ _ _ _ _ _ _ _ _ _ _ _ _ _ => rfl) (by decide) (by decide) ⟨fd, _, _, _, _, _, _, F⟩
theorem x_BadRow (U : Up fa fn K mg) : XTxt K mg "BadRow" "row" "BadRow.__init__" "ValueError.__new__" [.type "ValueError", .type "Exception", .type "BaseException", .type "object"] := by
  obtain ⟨h, X, G⟩ := U.at_
  obtain ⟨fd, F⟩ := U.c.def_ 21 (d := dX_BadRow) rfl
  exact fExc_ok X G xb_VE (U.c.fact 57 rfl) (fun _ _ _ _ _ _ _ _ _ _ _ _ _ _ _ => rfl) (by decide) (by decide) ⟨fd, _, _, _, _, _, _, F⟩
theorem x_BadLapse (U : Up fa fn K mg) : XTxt K mg "BadLapse" "lapse" "BadLapse.__init__" "ValueError.__new__" [.type "ValueError", .type "Exception", .type "BaseException", .type "object"] := by
  obtain ⟨h, X, G⟩ := U.at_
  obtain ⟨fd, F⟩ := U.c.def_ 22 (d := dX_BadLapse) rfl
  exact fExc_ok X G xb_VE (U.c.fact 58 rfl) (fun _ _ _ _ _ _ _ _ _ _ _ _ _ _ _ => rfl) (by decide) (by decide) ⟨fd, _, _, _, _, _, _, F⟩
theorem x_BadHarm (U : Up fa fn K mg) : XTxt K mg "BadHarm" "word" "BadHarm.__init__" "ValueError.__new__" [.type "ValueError", .type "Exception", .type "BaseException", .type "object"] := by
  obtain ⟨h, X, G⟩ := U.at_
  obtain ⟨fd, F⟩ := U.c.def_ 23 (d := dX_BadHarm) rfl
  exact fExc_ok X G xb_VE (U.c.fact 59 rfl) (fun _ _ _ _ _ _ _ _ _ _ _ _ _ _ _ => rfl) (by decide) (by decide) ⟨fd, _, _, _, _, _, _, F⟩
theorem x_BadRoom (U : Up fa fn K mg) : XTxt K mg "BadRoom" "room" "BadRoom.__init__" "ValueError.__new__" [.type "ValueError", .type "Exception", .type "BaseException", .type "object"] := by
  obtain ⟨h, X, G⟩ := U.at_
  obtain ⟨fd, F⟩ := U.c.def_ 24 (d := dX_BadRoom) rfl
  exact fExc_ok X G xb_VE (U.c.fact 60 rfl) (fun _ _ _ _ _ _ _ _ _ _ _ _ _ _ _ => rfl) (by decide) (by decide) ⟨fd, _, _, _, _, _, _, F⟩
theorem x_BadCommand (U : Up fa fn K mg) : XTxt K mg "BadCommand" "command" "BadCommand.__init__" "ValueError.__new__" [.type "ValueError", .type "Exception", .type "BaseException", .type "object"] := by
  obtain ⟨h, X, G⟩ := U.at_
  obtain ⟨fd, F⟩ := U.c.def_ 25 (d := dX_BadCommand) rfl
  exact fExc_ok X G xb_VE (U.c.fact 61 rfl) (fun _ _ _ _ _ _ _ _ _ _ _ _ _ _ _ => rfl) (by decide) (by decide) ⟨fd, _, _, _, _, _, _, F⟩
theorem x_BadText (U : Up fa fn K mg) : XTxt K mg "BadText" "text" "BadText.__init__" "ValueError.__new__" [.type "ValueError", .type "Exception", .type "BaseException", .type "object"] := by
  obtain ⟨h, X, G⟩ := U.at_
  obtain ⟨fd, F⟩ := U.c.def_ 26 (d := dX_BadText) rfl
  exact fExc_ok X G xb_VE (U.c.fact 62 rfl) (fun _ _ _ _ _ _ _ _ _ _ _ _ _ _ _ => rfl) (by decide) (by decide) ⟨fd, _, _, _, _, _, _, F⟩
theorem x_BadCount (U : Up fa fn K mg) : XTxt K mg "BadCount" "count" "BadCount.__init__" "ValueError.__new__" [.type "ValueError", .type "Exception", .type "BaseException", .type "object"] := by
  obtain ⟨h, X, G⟩ := U.at_
  obtain ⟨fd, F⟩ := U.c.def_ 27 (d := dX_BadCount) rfl
  exact fExc_ok X G xb_VE (U.c.fact 63 rfl) (fun _ _ _ _ _ _ _ _ _ _ _ _ _ _ _ => rfl) (by decide) (by decide) ⟨fd, _, _, _, _, _, _, F⟩
theorem x_BadSwitch (U : Up fa fn K mg) : XTxt K mg "BadSwitch" "value" "BadSwitch.__init__" "ValueError.__new__" [.type "ValueError", .type "Exception", .type "BaseException", .type "object"] := by
  obtain ⟨h, X, G⟩ := U.at_
  obtain ⟨fd, F⟩ := U.c.def_ 28 (d := dX_BadSwitch) rfl
  exact fExc_ok X G xb_VE (U.c.fact 64 rfl) (fun _ _ _ _ _ _ _ _ _ _ _ _ _ _ _ => rfl) (by decide) (by decide) ⟨fd, _, _, _, _, _, _, F⟩
def s__law_bag : Sg := sSeq (sAsg (eIf (eB (e2 (eVar 1) (eCall (aCons (eVar 0) aNil) bLen) dLt)) (e2 (eVar 0) (eVar 1) dIx) (eC (.int 0))) (gN 2)) (sSeq (sAsg (e2 (e2 (eC (.int 4099)) (eVar 1) dMul) (eC (.int 31)) dAdd) (gN 3)) (sSeq (sFor (iE (eSl (eVar 0) none (some (eC (.int 60))))) (gU 2 (gsCons (gN 4) (gsCons (gN 5) (gsNil)))) (sAsg (e2 (eCall (aCons (e2 (e2 (e2 (e2 (eVar 3) (eC (.int 40087)) dMul) (e2 (eCall (aCons (eVar 5) aNil) bInt) (eC (.int 2147483549)) dMod) dAdd) (e2 (eC (.int 211)) (eVar 4) dMul) dAdd) (eC (.int 7)) dAdd) aNil) bInt) (eC (.int 2147483647)) dMod) (gN 3))) (sRet (eLst (aCons (eIf (eB (e2 (eCall (aCons (eVar 2) aNil) bAbs) (e2 (eC (.int 10)) (eC (.int 18)) dPow) dGe)) (eCall (aCons (eVar 2) aNil) bAbs) (eC (.int 0))) (aCons (eVar 3) aNil))))))
def N__law_bag : List Str := ["_law_script", "_law_at", "_law_number", "_law_mixed", "_law_spot", "_law_each"]
def m__law_bag : Bk := bFn 2 (fnS 6 s__law_bag)
theorem sc__law_bag : FnScope ["_law_script", "_law_at", "_law_number", "_law_mixed", "_law_spot", "_law_each"] ["_law_script", "_law_at"] (defScope (top 23)) := ⟨rfl, rfl, rfl, by decide +kernel, rfl, by decide +kernel, by decide +kernel⟩
theorem o__law_bag (U : Up fa fn K mg) : ∃ fd, (∀ (s : Shared) (us : List Value), us.length = (["_law_script", "_law_at"] : List Str).length → BindsTo s fd ⟨us, []⟩ ((["_law_script", "_law_at"] : List Str).zip us)) ∧ Binds K fd ["_law_script", "_law_at"] [] ∧ PySem.W.keepIn K (.ref (He.ga K "_law_bag")) = true ∧ ∀ base : Heap, FnOk P w K mg base (L2.CX P w) 2 (He.ga K "_law_bag") fd ["_law_script", "_law_at"] (spD K 2 (fnS 6 s__law_bag)) := by
  obtain ⟨fd, F⟩ := U.c.def_ 0 (d := d__law_bag) rfl
  have F : FunD K "_law_bag" "_law_bag" (defArgs (top 23)) (defBody (top 23)) (defScope (top 23)) [] [] (He.ga K "_law_bag") fd := F
  refine ⟨fd, FunD.bindsA F fun _ _ _ _ _ _ us hl => match us, hl with | [_, _], _ => rfl, FunD.bindsN F fun _ _ _ _ _ _ us hl => match us, hl with | [_, _], _ => rfl, F.kp, fun base => ?_⟩
  have O : FnOk P w K mg base (L2.CX P w) (1 + 1) (He.ga K "_law_bag") fd ["_law_script", "_law_at"] (spD K (["_law_script", "_law_at"] : List Str).length (fnS (["_law_script", "_law_at", "_law_number", "_law_mixed", "_law_spot", "_law_each"] : List Str).length s__law_bag)) := by
    refine fn_ok F sc__law_bag fun cdv A outer s H E hr => ?_
    exact ess_cons (es_set (i := 2) sc__law_bag.nd rfl (by first | exact Or.inl rfl | exact Or.inr rfl) (ev_if (et_cmp opr_lt nx_lt (ev_var (pv 1)) (ev_callB cr_len' nb_len rfl (U.free 3) boot_len (ea_cons (ev_var (pv 0)) ea_nil)) (nomark _)) (ev_ix (ev_var (pv 0)) (ev_var (pv 1)) (fun _ _ => rfl)) (ev_int))) (ess_cons (es_set (i := 3) sc__law_bag.nd rfl (by first | exact Or.inl rfl | exact Or.inr rfl) (ev_bin opr_add nx_add (ev_bin opr_mul nx_mul (ev_int) (ev_var (pv 1))) (ev_int))) (ess_cons (es_for (passes_of rfl) rfl (ei_enum rfl (U.free 16) (ev_slice (ev_var (pv 0)) ep_none (ep_some (ev_int)))) (eg_seq rfl (egs_cons (eg_name (i := 4) sc__law_bag.nd rfl (by first | exact Or.inl rfl | exact Or.inr rfl)) (egs_cons (eg_name (i := 5) sc__law_bag.nd rfl (by first | exact Or.inl rfl | exact Or.inr rfl)) (egs_nil)))) (nt_seq _ _ (nts_cons (nt_name _) (nts_cons (nt_name _) (nts_nil)))) (ess_one (es_set (i := 3) sc__law_bag.nd rfl (by first | exact Or.inl rfl | exact Or.inr rfl) (ev_bin opr_mod nx_mod (ev_callTy cr_int' nb_int rfl (U.free 17) boot_int (ea_cons (ev_bin opr_add nx_add (ev_bin opr_add nx_add (ev_bin opr_add nx_add (ev_bin opr_mul nx_mul (ev_var (pv 3)) (ev_int)) (ev_bin opr_mod nx_mod (ev_callTy cr_int' nb_int rfl (U.free 17) boot_int (ea_cons (ev_var (pv 5)) ea_nil)) (ev_int))) (ev_bin opr_mul nx_mul (ev_int) (ev_var (pv 4)))) (ev_int)) ea_nil)) (ev_int))))) (ess_one (es_ret (ev_lst (ea_cons (ev_if (et_cmp opr_ge nx_ge (ev_callB cr_abs' nb_abs rfl (U.free 18) boot_abs (ea_cons (ev_var (pv 2)) ea_nil)) (ev_bin opr_pow nx_pow (ev_int) (ev_int)) (nomark _)) (ev_callB cr_abs' nb_abs rfl (U.free 18) boot_abs (ea_cons (ev_var (pv 2)) ea_nil)) (ev_int)) (ea_cons (ev_var (pv 3)) ea_nil)))))))
  exact O
theorem g__law_bag (U : Up fa fn K mg) : GFn P w K mg base "_law_bag" 2 m__law_bag := by
  obtain ⟨fd, _, b, k, O⟩ := o__law_bag (P := P) (w := w) U
  exact ⟨(U.glo 6), k, fnR_of (O base) b⟩
def s__law_bases : Sg := sRet (eLst (aCons (eCall (aCons (eVar 0) (aCons (eC (.ty "ValueError")) aNil)) (bIsi isd.tb)) (aCons (eCall (aCons (eVar 0) (aCons (eC (.ty "LookupError")) aNil)) (bIsi isd.tb)) (aCons (eCall (aCons (eVar 0) (aCons (eC (.ty "OverflowError")) aNil)) (bIsi isd.tb)) (aCons (eCall (aCons (eVar 0) (aCons (eC (.ty "RuntimeError")) aNil)) (bIsi isd.tb)) aNil)))))
def N__law_bases : List Str := ["_law_one"]
def m__law_bases : Bk := bFn 1 (fnS 1 s__law_bases)
theorem sc__law_bases : FnScope ["_law_one"] ["_law_one"] (defScope (top 29)) := ⟨rfl, rfl, rfl, by decide +kernel, rfl, by decide +kernel, by decide +kernel⟩
theorem o__law_bases (U : Up fa fn K mg) : ∃ fd, (∀ (s : Shared) (us : List Value), us.length = (["_law_one"] : List Str).length → BindsTo s fd ⟨us, []⟩ ((["_law_one"] : List Str).zip us)) ∧ Binds K fd ["_law_one"] [] ∧ PySem.W.keepIn K (.ref (He.ga K "_law_bases")) = true ∧ ∀ base : Heap, FnOk P w K mg base (L2.CX P w) 2 (He.ga K "_law_bases") fd ["_law_one"] (spD K 1 (fnS 1 s__law_bases)) := by
  obtain ⟨fd, F⟩ := U.c.def_ 1 (d := d__law_bases) rfl
  have F : FunD K "_law_bases" "_law_bases" (defArgs (top 29)) (defBody (top 29)) (defScope (top 29)) [] [] (He.ga K "_law_bases") fd := F
  refine ⟨fd, FunD.bindsA F fun _ _ _ _ _ _ us hl => match us, hl with | [_], _ => rfl, FunD.bindsN F fun _ _ _ _ _ _ us hl => match us, hl with | [_], _ => rfl, F.kp, fun base => ?_⟩
  have O : FnOk P w K mg base (L2.CX P w) (1 + 1) (He.ga K "_law_bases") fd ["_law_one"] (spD K (["_law_one"] : List Str).length (fnS (["_law_one"] : List Str).length s__law_bases)) := by
    refine fn_ok F sc__law_bases fun cdv A outer s H E hr => ?_
    exact ess_one (es_ret (ev_lst (ea_cons (ev_callB (cr_isi (isOk_of (U.c.fact 13))) nb_isi rfl (U.free 12) boot_isinstance (ea_cons (ev_var (pv 0)) (ea_cons (ev_bty rfl (U.free 22) boot_ValueError) ea_nil))) (ea_cons (ev_callB (cr_isi (isOk_of (U.c.fact 13))) nb_isi rfl (U.free 12) boot_isinstance (ea_cons (ev_var (pv 0)) (ea_cons (ev_bty rfl (U.free 21) boot_LookupError) ea_nil))) (ea_cons (ev_callB (cr_isi (isOk_of (U.c.fact 13))) nb_isi rfl (U.free 12) boot_isinstance (ea_cons (ev_var (pv 0)) (ea_cons (ev_bty rfl (U.free 20) boot_OverflowError) ea_nil))) (ea_cons (ev_callB (cr_isi (isOk_of (U.c.fact 13))) nb_isi rfl (U.free 12) boot_isinstance (ea_cons (ev_var (pv 0)) (ea_cons (ev_bty rfl (U.free 19) boot_RuntimeError) ea_nil))) ea_nil))))))
  exact O
theorem g__law_bases (U : Up fa fn K mg) : GFn P w K mg base "_law_bases" 2 m__law_bases := by
  obtain ⟨fd, _, b, k, O⟩ := o__law_bases (P := P) (w := w) U
  exact ⟨(U.glo 15), k, fnR_of (O base) b⟩
def s__law_classes : Sg := sSeq (sAsg (eLst (aCons (eCall (aCons (eVar 0) (aCons (eC (.glo "BadRow")) aNil)) (bIsi isd.tb)) (aCons (eCall (aCons (eVar 0) (aCons (eC (.glo "BadStart")) aNil)) (bIsi isd.tb)) (aCons (eCall (aCons (eVar 0) (aCons (eC (.glo "BadWatch")) aNil)) (bIsi isd.tb)) (aCons (eCall (aCons (eVar 0) (aCons (eC (.glo "BadLapse")) aNil)) (bIsi isd.tb)) (aCons (eCall (aCons (eVar 0) (aCons (eC (.glo "BadStanding")) aNil)) (bIsi isd.tb)) (aCons (eCall (aCons (eVar 0) (aCons (eC (.glo "BadMove")) aNil)) (bIsi isd.tb)) (aCons (eCall (aCons (eVar 0) (aCons (eC (.glo "BadRoom")) aNil)) (bIsi isd.tb)) aNil)))))))) (gN 1)) (sSeq (sAsg (eLst (aCons (eCall (aCons (eVar 0) (aCons (eC (.glo "BadTrouble")) aNil)) (bIsi isd.tb)) (aCons (eCall (aCons (eVar 0) (aCons (eC (.glo "BadHarm")) aNil)) (bIsi isd.tb)) (aCons (eCall (aCons (eVar 0) (aCons (eC (.glo "BadCare")) aNil)) (bIsi isd.tb)) (aCons (eCall (aCons (eVar 0) (aCons (eC (.glo "BadText")) aNil)) (bIsi isd.tb)) (aCons (eCall (aCons (eVar 0) (aCons (eC (.glo "BadCommand")) aNil)) (bIsi isd.tb)) (aCons (eCall (aCons (eVar 0) (aCons (eC (.glo "BadSwitch")) aNil)) (bIsi isd.tb)) (aCons (eCall (aCons (eVar 0) (aCons (eC (.glo "BadCount")) aNil)) (bIsi isd.tb)) (aCons (eCall (aCons (eVar 0) (aCons (eC (.glo "Twice")) aNil)) (bIsi isd.tb)) aNil))))))))) (gN 2)) (sSeq (sAsg (eLst (aCons (eCall (aCons (eVar 0) (aCons (eC (.glo "BadPlace")) aNil)) (bIsi isd.tb)) (aCons (eCall (aCons (eVar 0) (aCons (eC (.glo "BadIndex")) aNil)) (bIsi isd.tb)) (aCons (eCall (aCons (eVar 0) (aCons (eC (.glo "BadPart")) aNil)) (bIsi isd.tb)) (aCons (eCall (aCons (eVar 0) (aCons (eC (.glo "NoStanding")) aNil)) (bIsi isd.tb)) (aCons (eCall (aCons (eVar 0) (aCons (eC (.glo "TooMany")) aNil)) (bIsi isd.tb)) (aCons (eCall (aCons (eVar 0) (aCons (eC (.glo "Refused")) aNil)) (bIsi isd.tb)) aNil))))))) (gN 3)) (sRet (e2 (e2 (eVar 1) (eVar 2) dAdd) (eVar 3) dAdd))))
def N__law_classes : List Str := ["_law_one", "_law_first", "_law_second", "_law_third"]
def m__law_classes : Bk := bFn 1 (fnS 4 s__law_classes)
theorem sc__law_classes : FnScope ["_law_one", "_law_first", "_law_second", "_law_third"] ["_law_one"] (defScope (top 28)) := ⟨rfl, rfl, rfl, by decide +kernel, rfl, by decide +kernel, by decide +kernel⟩
theorem o__law_classes (U : Up fa fn K mg) : ∃ fd, (∀ (s : Shared) (us : List Value), us.length = (["_law_one"] : List Str).length → BindsTo s fd ⟨us, []⟩ ((["_law_one"] : List Str).zip us)) ∧ Binds K fd ["_law_one"] [] ∧ PySem.W.keepIn K (.ref (He.ga K "_law_classes")) = true ∧ ∀ base : Heap, FnOk P w K mg base (L2.CX P w) 2 (He.ga K "_law_classes") fd ["_law_one"] (spD K 1 (fnS 4 s__law_classes)) := by
  obtain ⟨fd, F⟩ := U.c.def_ 2 (d := d__law_classes) rfl
  have F : FunD K "_law_classes" "_law_classes" (defArgs (top 28)) (defBody (top 28)) (defScope (top 28)) [] [] (He.ga K "_law_classes") fd := F
  refine ⟨fd, FunD.bindsA F fun _ _ _ _ _ _ us hl => match us, hl with | [_], _ => rfl, FunD.bindsN F fun _ _ _ _ _ _ us hl => match us, hl with | [_], _ => rfl, F.kp, fun base => ?_⟩
  have O : FnOk P w K mg base (L2.CX P w) (1 + 1) (He.ga K "_law_classes") fd ["_law_one"] (spD K (["_law_one"] : List Str).length (fnS (["_law_one", "_law_first", "_law_second", "_law_third"] : List Str).length s__law_classes)) := by
    refine fn_ok F sc__law_classes fun cdv A outer s H E hr => ?_
    exact ess_cons (es_set (i := 1) sc__law_classes.nd rfl (by first | exact Or.inl rfl | exact Or.inr rfl) (ev_lst (ea_cons (ev_callB (cr_isi (isOk_of (U.c.fact 13))) nb_isi rfl (U.free 12) boot_isinstance (ea_cons (ev_var (pv 0)) (ea_cons (ev_glo rfl (U.glo 29)) ea_nil))) (ea_cons (ev_callB (cr_isi (isOk_of (U.c.fact 13))) nb_isi rfl (U.free 12) boot_isinstance (ea_cons (ev_var (pv 0)) (ea_cons (ev_glo rfl (U.glo 28)) ea_nil))) (ea_cons (ev_callB (cr_isi (isOk_of (U.c.fact 13))) nb_isi rfl (U.free 12) boot_isinstance (ea_cons (ev_var (pv 0)) (ea_cons (ev_glo rfl (U.glo 27)) ea_nil))) (ea_cons (ev_callB (cr_isi (isOk_of (U.c.fact 13))) nb_isi rfl (U.free 12) boot_isinstance (ea_cons (ev_var (pv 0)) (ea_cons (ev_glo rfl (U.glo 26)) ea_nil))) (ea_cons (ev_callB (cr_isi (isOk_of (U.c.fact 13))) nb_isi rfl (U.free 12) boot_isinstance (ea_cons (ev_var (pv 0)) (ea_cons (ev_glo rfl (U.glo 25)) ea_nil))) (ea_cons (ev_callB (cr_isi (isOk_of (U.c.fact 13))) nb_isi rfl (U.free 12) boot_isinstance (ea_cons (ev_var (pv 0)) (ea_cons (ev_glo rfl (U.glo 24)) ea_nil))) (ea_cons (ev_callB (cr_isi (isOk_of (U.c.fact 13))) nb_isi rfl (U.free 12) boot_isinstance (ea_cons (ev_var (pv 0)) (ea_cons (ev_glo rfl (U.glo 23)) ea_nil))) ea_nil))))))))) (ess_cons (es_set (i := 2) sc__law_classes.nd rfl (by first | exact Or.inl rfl | exact Or.inr rfl) (ev_lst (ea_cons (ev_callB (cr_isi (isOk_of (U.c.fact 13))) nb_isi rfl (U.free 12) boot_isinstance (ea_cons (ev_var (pv 0)) (ea_cons (ev_glo rfl (U.glo 37)) ea_nil))) (ea_cons (ev_callB (cr_isi (isOk_of (U.c.fact 13))) nb_isi rfl (U.free 12) boot_isinstance (ea_cons (ev_var (pv 0)) (ea_cons (ev_glo rfl (U.glo 36)) ea_nil))) (ea_cons (ev_callB (cr_isi (isOk_of (U.c.fact 13))) nb_isi rfl (U.free 12) boot_isinstance (ea_cons (ev_var (pv 0)) (ea_cons (ev_glo rfl (U.glo 35)) ea_nil))) (ea_cons (ev_callB (cr_isi (isOk_of (U.c.fact 13))) nb_isi rfl (U.free 12) boot_isinstance (ea_cons (ev_var (pv 0)) (ea_cons (ev_glo rfl (U.glo 34)) ea_nil))) (ea_cons (ev_callB (cr_isi (isOk_of (U.c.fact 13))) nb_isi rfl (U.free 12) boot_isinstance (ea_cons (ev_var (pv 0)) (ea_cons (ev_glo rfl (U.glo 33)) ea_nil))) (ea_cons (ev_callB (cr_isi (isOk_of (U.c.fact 13))) nb_isi rfl (U.free 12) boot_isinstance (ea_cons (ev_var (pv 0)) (ea_cons (ev_glo rfl (U.glo 32)) ea_nil))) (ea_cons (ev_callB (cr_isi (isOk_of (U.c.fact 13))) nb_isi rfl (U.free 12) boot_isinstance (ea_cons (ev_var (pv 0)) (ea_cons (ev_glo rfl (U.glo 31)) ea_nil))) (ea_cons (ev_callB (cr_isi (isOk_of (U.c.fact 13))) nb_isi rfl (U.free 12) boot_isinstance (ea_cons (ev_var (pv 0)) (ea_cons (ev_glo rfl (U.glo 30)) ea_nil))) ea_nil)))))))))) (ess_cons (es_set (i := 3) sc__law_classes.nd rfl (by first | exact Or.inl rfl | exact Or.inr rfl) (ev_lst (ea_cons (ev_callB (cr_isi (isOk_of (U.c.fact 13))) nb_isi rfl (U.free 12) boot_isinstance (ea_cons (ev_var (pv 0)) (ea_cons (ev_glo rfl (U.glo 43)) ea_nil))) (ea_cons (ev_callB (cr_isi (isOk_of (U.c.fact 13))) nb_isi rfl (U.free 12) boot_isinstance (ea_cons (ev_var (pv 0)) (ea_cons (ev_glo rfl (U.glo 42)) ea_nil))) (ea_cons (ev_callB (cr_isi (isOk_of (U.c.fact 13))) nb_isi rfl (U.free 12) boot_isinstance (ea_cons (ev_var (pv 0)) (ea_cons (ev_glo rfl (U.glo 41)) ea_nil))) (ea_cons (ev_callB (cr_isi (isOk_of (U.c.fact 13))) nb_isi rfl (U.free 12) boot_isinstance (ea_cons (ev_var (pv 0)) (ea_cons (ev_glo rfl (U.glo 40)) ea_nil))) (ea_cons (ev_callB (cr_isi (isOk_of (U.c.fact 13))) nb_isi rfl (U.free 12) boot_isinstance (ea_cons (ev_var (pv 0)) (ea_cons (ev_glo rfl (U.glo 39)) ea_nil))) (ea_cons (ev_callB (cr_isi (isOk_of (U.c.fact 13))) nb_isi rfl (U.free 12) boot_isinstance (ea_cons (ev_var (pv 0)) (ea_cons (ev_glo rfl (U.glo 38)) ea_nil))) ea_nil)))))))) (ess_one (es_ret (ev_bin opr_add nx_add (ev_bin opr_add nx_add (ev_var (pv 1)) (ev_var (pv 2))) (ev_var (pv 3)))))))
  exact O
theorem g__law_classes (U : Up fa fn K mg) : GFn P w K mg base "_law_classes" 2 m__law_classes := by
  obtain ⟨fd, _, b, k, O⟩ := o__law_classes (P := P) (w := w) U
  exact ⟨(U.glo 14), k, fnR_of (O base) b⟩
def s__law_take : Sg := sSeq (sIf (eB (e2 (e2 (eVar 0) (eC (.int 0)) dIx) (eC (.int 0)) dGt)) (sSeq (sAsg (e2 (eCall (aCons (e2 (eVar 0) (eC (.int 0)) dIx) aNil) bInt) (eVar 1) dMod) (gN 2)) (sSeq (sAsg (e2 (e2 (eVar 0) (eC (.int 0)) dIx) (eVar 1) dDiv) (gIx (eVar 0) (eC (.int 0)))) (sRet (eVar 2)))) (sNext)) (sSeq (sAsg (e2 (eCall (aCons (e2 (e2 (e2 (eVar 0) (eC (.int 1)) dIx) (eC (.int 48271)) dMul) (eC (.int 12820163)) dAdd) aNil) bInt) (eC (.int 2147483587)) dMod) (gIx (eVar 0) (eC (.int 1)))) (sRet (e2 (e2 (e2 (eCall (aCons (e2 (e2 (e2 (eVar 0) (eC (.int 1)) dIx) (eC (.int 17)) dDiv) (eC (.int 69697)) dMul) aNil) bInt) (eC (.int 2147483489)) dMod) (eC (.int 32)) dDiv) (eVar 1) dMod)))
def N__law_take : List Str := ["_law_bag_here", "_law_many", "_law_digit"]
def m__law_take : Bk := bFn 2 (fnS 3 s__law_take)
theorem sc__law_take : FnScope ["_law_bag_here", "_law_many", "_law_digit"] ["_law_bag_here", "_law_many"] (defScope (top 24)) := ⟨rfl, rfl, rfl, by decide +kernel, rfl, by decide +kernel, by decide +kernel⟩
theorem o__law_take (U : Up fa fn K mg) : ∃ fd, (∀ (s : Shared) (us : List Value), us.length = (["_law_bag_here", "_law_many"] : List Str).length → BindsTo s fd ⟨us, []⟩ ((["_law_bag_here", "_law_many"] : List Str).zip us)) ∧ Binds K fd ["_law_bag_here", "_law_many"] [] ∧ PySem.W.keepIn K (.ref (He.ga K "_law_take")) = true ∧ ∀ base : Heap, FnOk P w K mg base (L2.CX P w) 2 (He.ga K "_law_take") fd ["_law_bag_here", "_law_many"] (spD K 2 (fnS 3 s__law_take)) := by
  obtain ⟨fd, F⟩ := U.c.def_ 3 (d := d__law_take) rfl
  have F : FunD K "_law_take" "_law_take" (defArgs (top 24)) (defBody (top 24)) (defScope (top 24)) [] [] (He.ga K "_law_take") fd := F
  refine ⟨fd, FunD.bindsA F fun _ _ _ _ _ _ us hl => match us, hl with | [_, _], _ => rfl, FunD.bindsN F fun _ _ _ _ _ _ us hl => match us, hl with | [_, _], _ => rfl, F.kp, fun base => ?_⟩
  have O : FnOk P w K mg base (L2.CX P w) (1 + 1) (He.ga K "_law_take") fd ["_law_bag_here", "_law_many"] (spD K (["_law_bag_here", "_law_many"] : List Str).length (fnS (["_law_bag_here", "_law_many", "_law_digit"] : List Str).length s__law_take)) := by
    refine fn_ok F sc__law_take fun cdv A outer s H E hr => ?_
    exact ess_cons (es_if (et_cmp opr_gt nx_gt (ev_ix (ev_var (pv 0)) (ev_int) (fun _ _ => rfl)) (ev_int) (nomark _)) (ess_cons (es_set (i := 2) sc__law_take.nd rfl (by first | exact Or.inl rfl | exact Or.inr rfl) (ev_bin opr_mod nx_mod (ev_callTy cr_int' nb_int rfl (U.free 17) boot_int (ea_cons (ev_ix (ev_var (pv 0)) (ev_int) (fun _ _ => rfl)) ea_nil)) (ev_var (pv 1)))) (ess_cons (es_asg (ev_bin opr_div nx_div (ev_ix (ev_var (pv 0)) (ev_int) (fun _ _ => rfl)) (ev_var (pv 1))) (eg_ix (ev_var (pv 0)) (ev_int) (nv_var _) (nv_c _) (fun _ => rfl)) (nt_ix (nv_var _) (nv_c _))) (ess_one (es_ret (ev_var (pv 2)))))) (ess_nil)) (ess_cons (es_asg (ev_bin opr_mod nx_mod (ev_callTy cr_int' nb_int rfl (U.free 17) boot_int (ea_cons (ev_bin opr_add nx_add (ev_bin opr_mul nx_mul (ev_ix (ev_var (pv 0)) (ev_int) (fun _ _ => rfl)) (ev_int)) (ev_int)) ea_nil)) (ev_int)) (eg_ix (ev_var (pv 0)) (ev_int) (nv_var _) (nv_c _) (fun _ => rfl)) (nt_ix (nv_var _) (nv_c _))) (ess_one (es_ret (ev_bin opr_mod nx_mod (ev_bin opr_div nx_div (ev_bin opr_mod nx_mod (ev_callTy cr_int' nb_int rfl (U.free 17) boot_int (ea_cons (ev_bin opr_mul nx_mul (ev_bin opr_div nx_div (ev_ix (ev_var (pv 0)) (ev_int) (fun _ _ => rfl)) (ev_int)) (ev_int)) ea_nil)) (ev_int)) (ev_int)) (ev_var (pv 1))))))
  exact O
theorem g__law_take (U : Up fa fn K mg) : GFn P w K mg base "_law_take" 2 m__law_take := by
  obtain ⟨fd, _, b, k, O⟩ := o__law_take (P := P) (w := w) U
  exact ⟨(U.glo 8), k, fnR_of (O base) b⟩
def s__law_of : Sg := sRet (e2 (eVar 1) (eCall (aCons (eVar 0) (aCons (eCall (aCons (eVar 1) aNil) bLen) aNil)) m__law_take) dIx)
def N__law_of : List Str := ["_law_bag_here", "_law_some"]
def m__law_of : Bk := bFn 2 (fnS 2 s__law_of)
theorem sc__law_of : FnScope ["_law_bag_here", "_law_some"] ["_law_bag_here", "_law_some"] (defScope (top 25)) := ⟨rfl, rfl, rfl, by decide +kernel, rfl, by decide +kernel, by decide +kernel⟩
theorem o__law_of (U : Up fa fn K mg) : ∃ fd, (∀ (s : Shared) (us : List Value), us.length = (["_law_bag_here", "_law_some"] : List Str).length → BindsTo s fd ⟨us, []⟩ ((["_law_bag_here", "_law_some"] : List Str).zip us)) ∧ Binds K fd ["_law_bag_here", "_law_some"] [] ∧ PySem.W.keepIn K (.ref (He.ga K "_law_of")) = true ∧ ∀ base : Heap, FnOk P w K mg base (L2.CX P w) 3 (He.ga K "_law_of") fd ["_law_bag_here", "_law_some"] (spD K 2 (fnS 2 s__law_of)) := by
  obtain ⟨fd, F⟩ := U.c.def_ 4 (d := d__law_of) rfl
  have F : FunD K "_law_of" "_law_of" (defArgs (top 25)) (defBody (top 25)) (defScope (top 25)) [] [] (He.ga K "_law_of") fd := F
  refine ⟨fd, FunD.bindsA F fun _ _ _ _ _ _ us hl => match us, hl with | [_, _], _ => rfl, FunD.bindsN F fun _ _ _ _ _ _ us hl => match us, hl with | [_, _], _ => rfl, F.kp, fun base => ?_⟩
  have O : FnOk P w K mg base (L2.CX P w) (2 + 1) (He.ga K "_law_of") fd ["_law_bag_here", "_law_some"] (spD K (["_law_bag_here", "_law_some"] : List Str).length (fnS (["_law_bag_here", "_law_some"] : List Str).length s__law_of)) := by
    refine fn_ok F sc__law_of fun cdv A outer s H E hr => ?_
    exact ess_one (es_ret (ev_ix (ev_var (pv 1)) (ev_call (g__law_take U) (hr.mono (by decide)) (takes_of rfl rfl rfl rfl) rfl (ea_cons (ev_var (pv 0)) (ea_cons (ev_callB cr_len' nb_len rfl (U.free 3) boot_len (ea_cons (ev_var (pv 1)) ea_nil)) ea_nil))) (fun _ _ => rfl)))
  exact O
theorem g__law_of (U : Up fa fn K mg) : GFn P w K mg base "_law_of" 3 m__law_of := by
  obtain ⟨fd, _, b, k, O⟩ := o__law_of (P := P) (w := w) U
  exact ⟨(U.glo 7), k, fnR_of (O base) b⟩
def s__law_others : Sg := sSeq (sPar3 1 2 3 (aCons (eErr "BadPlace" "place" (eVar 0)) (aCons (eErr "BadIndex" "index" (eVar 0)) (aCons (eErr "BadPart" "name" (eVar 0)) aNil)))) (sSeq (sPar3 4 5 6 (aCons (eErr "NoStanding" "standing" (eVar 0)) (aCons (eErr "TooMany" "limit" (eVar 0)) (aCons (eErr "Refused" "move" (eVar 0)) aNil)))) (sSeq (sAsg (eLst (aCons (eLst (aCons (eVar 1) (aCons (eXf ["BadPlace"] "place" (eVar 1)) aNil))) (aCons (eLst (aCons (eVar 2) (aCons (eXf ["BadIndex"] "index" (eVar 2)) aNil))) (aCons (eLst (aCons (eVar 3) (aCons (eXf ["BadTrouble", "BadCare", "Twice", "BadPart"] "name" (eVar 3)) aNil))) (aCons (eLst (aCons (eVar 4) (aCons (eXf ["BadStanding", "NoStanding"] "standing" (eVar 4)) aNil))) (aCons (eLst (aCons (eVar 5) (aCons (eXf ["TooMany"] "limit" (eVar 5)) aNil))) aNil)))))) (gN 7)) (sRet (e2 (eVar 7) (eLst (aCons (eLst (aCons (eVar 6) (aCons (eXf ["BadMove", "Refused"] "move" (eVar 6)) aNil))) aNil)) dAdd))))
def N__law_others : List Str := ["_law_thing", "_law_one", "_law_two", "_law_three", "_law_four", "_law_five", "_law_six", "_law_found"]
def m__law_others : Bk := bFn 1 (fnS 8 s__law_others)
theorem sc__law_others : FnScope ["_law_thing", "_law_one", "_law_two", "_law_three", "_law_four", "_law_five", "_law_six", "_law_found"] ["_law_thing"] (defScope (top 27)) := ⟨rfl, rfl, rfl, by decide +kernel, rfl, by decide +kernel, by decide +kernel⟩
theorem o__law_others (U : Up fa fn K mg) : ∃ fd, (∀ (s : Shared) (us : List Value), us.length = (["_law_thing"] : List Str).length → BindsTo s fd ⟨us, []⟩ ((["_law_thing"] : List Str).zip us)) ∧ Binds K fd ["_law_thing"] [] ∧ PySem.W.keepIn K (.ref (He.ga K "_law_others")) = true ∧ ∀ base : Heap, FnOk P w K mg base (L2.CX P w) 2 (He.ga K "_law_others") fd ["_law_thing"] (spD K 1 (fnS 8 s__law_others)) := by
  obtain ⟨fd, F⟩ := U.c.def_ 5 (d := d__law_others) rfl
  have F : FunD K "_law_others" "_law_others" (defArgs (top 27)) (defBody (top 27)) (defScope (top 27)) [] [] (He.ga K "_law_others") fd := F
  refine ⟨fd, FunD.bindsA F fun _ _ _ _ _ _ us hl => match us, hl with | [_], _ => rfl, FunD.bindsN F fun _ _ _ _ _ _ us hl => match us, hl with | [_], _ => rfl, F.kp, fun base => ?_⟩
  have O : FnOk P w K mg base (L2.CX P w) (1 + 1) (He.ga K "_law_others") fd ["_law_thing"] (spD K (["_law_thing"] : List Str).length (fnS (["_law_thing", "_law_one", "_law_two", "_law_three", "_law_four", "_law_five", "_law_six", "_law_found"] : List Str).length s__law_others)) := by
    refine fn_ok F sc__law_others fun cdv A outer s H E hr => ?_
    exact ess_cons (es_par3 (i := 1) (j := 2) (l := 3) rfl sc__law_others.nd rfl rfl rfl (by decide) (by decide) (by decide) rfl rfl rfl (ea_cons (ev_err (k := 0) ⟨_, _, _, x_BadPlace U⟩ (hr.mono (by decide)) rfl (ev_var (pv 0))) (ea_cons (ev_err (k := 0) ⟨_, _, _, x_BadIndex U⟩ (hr.mono (by decide)) rfl (ev_var (pv 0))) (ea_cons (ev_err (k := 0) ⟨_, _, _, x_BadPart U⟩ (hr.mono (by decide)) rfl (ev_var (pv 0))) ea_nil))) (by rfl)) (ess_cons (es_par3 (i := 4) (j := 5) (l := 6) rfl sc__law_others.nd rfl rfl rfl (by decide) (by decide) (by decide) rfl rfl rfl (ea_cons (ev_err (k := 0) ⟨_, _, _, x_NoStanding U⟩ (hr.mono (by decide)) rfl (ev_var (pv 0))) (ea_cons (ev_err (k := 0) ⟨_, _, _, x_TooMany U⟩ (hr.mono (by decide)) rfl (ev_var (pv 0))) (ea_cons (ev_err (k := 0) ⟨_, _, _, x_Refused U⟩ (hr.mono (by decide)) rfl (ev_var (pv 0))) ea_nil))) (by rfl)) (ess_cons (es_set (i := 7) sc__law_others.nd rfl (by first | exact Or.inl rfl | exact Or.inr rfl) (ev_lst (ea_cons (ev_lst (ea_cons (ev_var (pv 1)) (ea_cons (ev_xf (List.forall_mem_cons.mpr ⟨⟨_, _, _, x_BadPlace U⟩, (List.forall_mem_nil _)⟩) (ev_var (pv 1))) ea_nil))) (ea_cons (ev_lst (ea_cons (ev_var (pv 2)) (ea_cons (ev_xf (List.forall_mem_cons.mpr ⟨⟨_, _, _, x_BadIndex U⟩, (List.forall_mem_nil _)⟩) (ev_var (pv 2))) ea_nil))) (ea_cons (ev_lst (ea_cons (ev_var (pv 3)) (ea_cons (ev_xf (List.forall_mem_cons.mpr ⟨⟨_, _, _, x_BadTrouble U⟩, (List.forall_mem_cons.mpr ⟨⟨_, _, _, x_BadCare U⟩, (List.forall_mem_cons.mpr ⟨⟨_, _, _, x_Twice U⟩, (List.forall_mem_cons.mpr ⟨⟨_, _, _, x_BadPart U⟩, (List.forall_mem_nil _)⟩)⟩)⟩)⟩) (ev_var (pv 3))) ea_nil))) (ea_cons (ev_lst (ea_cons (ev_var (pv 4)) (ea_cons (ev_xf (List.forall_mem_cons.mpr ⟨⟨_, _, _, x_BadStanding U⟩, (List.forall_mem_cons.mpr ⟨⟨_, _, _, x_NoStanding U⟩, (List.forall_mem_nil _)⟩)⟩) (ev_var (pv 4))) ea_nil))) (ea_cons (ev_lst (ea_cons (ev_var (pv 5)) (ea_cons (ev_xf (List.forall_mem_cons.mpr ⟨⟨_, _, _, x_TooMany U⟩, (List.forall_mem_nil _)⟩) (ev_var (pv 5))) ea_nil))) ea_nil))))))) (ess_one (es_ret (ev_bin opr_add nx_add (ev_var (pv 7)) (ev_lst (ea_cons (ev_lst (ea_cons (ev_var (pv 6)) (ea_cons (ev_xf (List.forall_mem_cons.mpr ⟨⟨_, _, _, x_BadMove U⟩, (List.forall_mem_cons.mpr ⟨⟨_, _, _, x_Refused U⟩, (List.forall_mem_nil _)⟩)⟩) (ev_var (pv 6))) ea_nil))) ea_nil)))))))
  exact O
theorem g__law_others (U : Up fa fn K mg) : GFn P w K mg base "_law_others" 2 m__law_others := by
  obtain ⟨fd, _, b, k, O⟩ := o__law_others (P := P) (w := w) U
  exact ⟨(U.glo 10), k, fnR_of (O base) b⟩
def s__law_values : Sg := sSeq (sPar3 1 2 3 (aCons (eErr "BadRow" "row" (eVar 0)) (aCons (eErr "BadStart" "word" (eVar 0)) (aCons (eErr "BadWatch" "watch" (eVar 0)) aNil)))) (sSeq (sPar3 4 5 6 (aCons (eErr "BadLapse" "lapse" (eVar 0)) (aCons (eErr "BadStanding" "standing" (eVar 0)) (aCons (eErr "BadMove" "move" (eVar 0)) aNil)))) (sSeq (sAsg (eLst (aCons (eLst (aCons (eVar 1) (aCons (eXf ["BadRow"] "row" (eVar 1)) aNil))) (aCons (eLst (aCons (eVar 2) (aCons (eXf ["BadStart", "BadHarm"] "word" (eVar 2)) aNil))) (aCons (eLst (aCons (eVar 3) (aCons (eXf ["BadWatch"] "watch" (eVar 3)) aNil))) (aCons (eLst (aCons (eVar 4) (aCons (eXf ["BadLapse"] "lapse" (eVar 4)) aNil))) (aCons (eLst (aCons (eVar 5) (aCons (eXf ["BadStanding", "NoStanding"] "standing" (eVar 5)) aNil))) aNil)))))) (gN 7)) (sSeq (sExpr (eBm "list" bAppend (eVar 7) (aCons (eLst (aCons (eVar 6) (aCons (eXf ["BadMove", "Refused"] "move" (eVar 6)) aNil))) aNil))) (sSeq (sPar3 1 2 3 (aCons (eErr "BadRoom" "room" (eVar 0)) (aCons (eErr "BadTrouble" "name" (eVar 0)) (aCons (eErr "BadHarm" "word" (eVar 0)) aNil)))) (sSeq (sPar3 4 5 6 (aCons (eErr "BadCare" "name" (eVar 0)) (aCons (eErr "BadText" "text" (eVar 0)) (aCons (eErr "BadCommand" "command" (eVar 0)) aNil)))) (sSeq (sAsg (e2 (eVar 7) (eLst (aCons (eLst (aCons (eVar 1) (aCons (eXf ["BadRoom"] "room" (eVar 1)) aNil))) (aCons (eLst (aCons (eVar 2) (aCons (eXf ["BadTrouble", "BadCare", "Twice", "BadPart"] "name" (eVar 2)) aNil))) (aCons (eLst (aCons (eVar 3) (aCons (eXf ["BadStart", "BadHarm"] "word" (eVar 3)) aNil))) (aCons (eLst (aCons (eVar 4) (aCons (eXf ["BadTrouble", "BadCare", "Twice", "BadPart"] "name" (eVar 4)) aNil))) (aCons (eLst (aCons (eVar 5) (aCons (eXf ["BadText"] "text" (eVar 5)) aNil))) aNil)))))) dAdd) (gN 7)) (sSeq (sExpr (eBm "list" bAppend (eVar 7) (aCons (eLst (aCons (eVar 6) (aCons (eXf ["BadCommand"] "command" (eVar 6)) aNil))) aNil))) (sSeq (sPar3 1 2 3 (aCons (eErr "BadSwitch" "value" (eVar 0)) (aCons (eErr "BadCount" "count" (eVar 0)) (aCons (eErr "Twice" "name" (eVar 0)) aNil)))) (sRet (e2 (eVar 7) (eLst (aCons (eLst (aCons (eVar 1) (aCons (eXf ["BadSwitch"] "value" (eVar 1)) aNil))) (aCons (eLst (aCons (eVar 2) (aCons (eXf ["BadCount"] "count" (eVar 2)) aNil))) (aCons (eLst (aCons (eVar 3) (aCons (eXf ["BadTrouble", "BadCare", "Twice", "BadPart"] "name" (eVar 3)) aNil))) aNil)))) dAdd))))))))))
def N__law_values : List Str := ["_law_thing", "_law_one", "_law_two", "_law_three", "_law_four", "_law_five", "_law_six", "_law_found"]
def m__law_values : Bk := bFn 1 (fnS 8 s__law_values)
theorem sc__law_values : FnScope ["_law_thing", "_law_one", "_law_two", "_law_three", "_law_four", "_law_five", "_law_six", "_law_found"] ["_law_thing"] (defScope (top 26)) := ⟨rfl, rfl, rfl, by decide +kernel, rfl, by decide +kernel, by decide +kernel⟩
theorem o__law_values (U : Up fa fn K mg) : ∃ fd, (∀ (s : Shared) (us : List Value), us.length = (["_law_thing"] : List Str).length → BindsTo s fd ⟨us, []⟩ ((["_law_thing"] : List Str).zip us)) ∧ Binds K fd ["_law_thing"] [] ∧ PySem.W.keepIn K (.ref (He.ga K "_law_values")) = true ∧ ∀ base : Heap, FnOk P w K mg base (L2.CX P w) 2 (He.ga K "_law_values") fd ["_law_thing"] (spD K 1 (fnS 8 s__law_values)) := by
  obtain ⟨fd, F⟩ := U.c.def_ 6 (d := d__law_values) rfl
  have F : FunD K "_law_values" "_law_values" (defArgs (top 26)) (defBody (top 26)) (defScope (top 26)) [] [] (He.ga K "_law_values") fd := F
  refine ⟨fd, FunD.bindsA F fun _ _ _ _ _ _ us hl => match us, hl with | [_], _ => rfl, FunD.bindsN F fun _ _ _ _ _ _ us hl => match us, hl with | [_], _ => rfl, F.kp, fun base => ?_⟩
  have O : FnOk P w K mg base (L2.CX P w) (1 + 1) (He.ga K "_law_values") fd ["_law_thing"] (spD K (["_law_thing"] : List Str).length (fnS (["_law_thing", "_law_one", "_law_two", "_law_three", "_law_four", "_law_five", "_law_six", "_law_found"] : List Str).length s__law_values)) := by
    refine fn_ok F sc__law_values fun cdv A outer s H E hr => ?_
    exact ess_cons (es_par3 (i := 1) (j := 2) (l := 3) rfl sc__law_values.nd rfl rfl rfl (by decide) (by decide) (by decide) rfl rfl rfl (ea_cons (ev_err (k := 0) ⟨_, _, _, x_BadRow U⟩ (hr.mono (by decide)) rfl (ev_var (pv 0))) (ea_cons (ev_err (k := 0) ⟨_, _, _, x_BadStart U⟩ (hr.mono (by decide)) rfl (ev_var (pv 0))) (ea_cons (ev_err (k := 0) ⟨_, _, _, x_BadWatch U⟩ (hr.mono (by decide)) rfl (ev_var (pv 0))) ea_nil))) (by rfl)) (ess_cons (es_par3 (i := 4) (j := 5) (l := 6) rfl sc__law_values.nd rfl rfl rfl (by decide) (by decide) (by decide) rfl rfl rfl (ea_cons (ev_err (k := 0) ⟨_, _, _, x_BadLapse U⟩ (hr.mono (by decide)) rfl (ev_var (pv 0))) (ea_cons (ev_err (k := 0) ⟨_, _, _, x_BadStanding U⟩ (hr.mono (by decide)) rfl (ev_var (pv 0))) (ea_cons (ev_err (k := 0) ⟨_, _, _, x_BadMove U⟩ (hr.mono (by decide)) rfl (ev_var (pv 0))) ea_nil))) (by rfl)) (ess_cons (es_set (i := 7) sc__law_values.nd rfl (by first | exact Or.inl rfl | exact Or.inr rfl) (ev_lst (ea_cons (ev_lst (ea_cons (ev_var (pv 1)) (ea_cons (ev_xf (List.forall_mem_cons.mpr ⟨⟨_, _, _, x_BadRow U⟩, (List.forall_mem_nil _)⟩) (ev_var (pv 1))) ea_nil))) (ea_cons (ev_lst (ea_cons (ev_var (pv 2)) (ea_cons (ev_xf (List.forall_mem_cons.mpr ⟨⟨_, _, _, x_BadStart U⟩, (List.forall_mem_cons.mpr ⟨⟨_, _, _, x_BadHarm U⟩, (List.forall_mem_nil _)⟩)⟩) (ev_var (pv 2))) ea_nil))) (ea_cons (ev_lst (ea_cons (ev_var (pv 3)) (ea_cons (ev_xf (List.forall_mem_cons.mpr ⟨⟨_, _, _, x_BadWatch U⟩, (List.forall_mem_nil _)⟩) (ev_var (pv 3))) ea_nil))) (ea_cons (ev_lst (ea_cons (ev_var (pv 4)) (ea_cons (ev_xf (List.forall_mem_cons.mpr ⟨⟨_, _, _, x_BadLapse U⟩, (List.forall_mem_nil _)⟩) (ev_var (pv 4))) ea_nil))) (ea_cons (ev_lst (ea_cons (ev_var (pv 5)) (ea_cons (ev_xf (List.forall_mem_cons.mpr ⟨⟨_, _, _, x_BadStanding U⟩, (List.forall_mem_cons.mpr ⟨⟨_, _, _, x_NoStanding U⟩, (List.forall_mem_nil _)⟩)⟩) (ev_var (pv 5))) ea_nil))) ea_nil))))))) (ess_cons (es_expr (ev_append (ev_var (pv 7)) (ev_lst (ea_cons (ev_var (pv 6)) (ea_cons (ev_xf (List.forall_mem_cons.mpr ⟨⟨_, _, _, x_BadMove U⟩, (List.forall_mem_cons.mpr ⟨⟨_, _, _, x_Refused U⟩, (List.forall_mem_nil _)⟩)⟩) (ev_var (pv 6))) ea_nil))))) (ess_cons (es_par3 (i := 1) (j := 2) (l := 3) rfl sc__law_values.nd rfl rfl rfl (by decide) (by decide) (by decide) rfl rfl rfl (ea_cons (ev_err (k := 0) ⟨_, _, _, x_BadRoom U⟩ (hr.mono (by decide)) rfl (ev_var (pv 0))) (ea_cons (ev_err (k := 0) ⟨_, _, _, x_BadTrouble U⟩ (hr.mono (by decide)) rfl (ev_var (pv 0))) (ea_cons (ev_err (k := 0) ⟨_, _, _, x_BadHarm U⟩ (hr.mono (by decide)) rfl (ev_var (pv 0))) ea_nil))) (by rfl)) (ess_cons (es_par3 (i := 4) (j := 5) (l := 6) rfl sc__law_values.nd rfl rfl rfl (by decide) (by decide) (by decide) rfl rfl rfl (ea_cons (ev_err (k := 0) ⟨_, _, _, x_BadCare U⟩ (hr.mono (by decide)) rfl (ev_var (pv 0))) (ea_cons (ev_err (k := 0) ⟨_, _, _, x_BadText U⟩ (hr.mono (by decide)) rfl (ev_var (pv 0))) (ea_cons (ev_err (k := 0) ⟨_, _, _, x_BadCommand U⟩ (hr.mono (by decide)) rfl (ev_var (pv 0))) ea_nil))) (by rfl)) (ess_cons (es_set (i := 7) sc__law_values.nd rfl (by first | exact Or.inl rfl | exact Or.inr rfl) (ev_bin opr_add nx_add (ev_var (pv 7)) (ev_lst (ea_cons (ev_lst (ea_cons (ev_var (pv 1)) (ea_cons (ev_xf (List.forall_mem_cons.mpr ⟨⟨_, _, _, x_BadRoom U⟩, (List.forall_mem_nil _)⟩) (ev_var (pv 1))) ea_nil))) (ea_cons (ev_lst (ea_cons (ev_var (pv 2)) (ea_cons (ev_xf (List.forall_mem_cons.mpr ⟨⟨_, _, _, x_BadTrouble U⟩, (List.forall_mem_cons.mpr ⟨⟨_, _, _, x_BadCare U⟩, (List.forall_mem_cons.mpr ⟨⟨_, _, _, x_Twice U⟩, (List.forall_mem_cons.mpr ⟨⟨_, _, _, x_BadPart U⟩, (List.forall_mem_nil _)⟩)⟩)⟩)⟩) (ev_var (pv 2))) ea_nil))) (ea_cons (ev_lst (ea_cons (ev_var (pv 3)) (ea_cons (ev_xf (List.forall_mem_cons.mpr ⟨⟨_, _, _, x_BadStart U⟩, (List.forall_mem_cons.mpr ⟨⟨_, _, _, x_BadHarm U⟩, (List.forall_mem_nil _)⟩)⟩) (ev_var (pv 3))) ea_nil))) (ea_cons (ev_lst (ea_cons (ev_var (pv 4)) (ea_cons (ev_xf (List.forall_mem_cons.mpr ⟨⟨_, _, _, x_BadTrouble U⟩, (List.forall_mem_cons.mpr ⟨⟨_, _, _, x_BadCare U⟩, (List.forall_mem_cons.mpr ⟨⟨_, _, _, x_Twice U⟩, (List.forall_mem_cons.mpr ⟨⟨_, _, _, x_BadPart U⟩, (List.forall_mem_nil _)⟩)⟩)⟩)⟩) (ev_var (pv 4))) ea_nil))) (ea_cons (ev_lst (ea_cons (ev_var (pv 5)) (ea_cons (ev_xf (List.forall_mem_cons.mpr ⟨⟨_, _, _, x_BadText U⟩, (List.forall_mem_nil _)⟩) (ev_var (pv 5))) ea_nil))) ea_nil)))))))) (ess_cons (es_expr (ev_append (ev_var (pv 7)) (ev_lst (ea_cons (ev_var (pv 6)) (ea_cons (ev_xf (List.forall_mem_cons.mpr ⟨⟨_, _, _, x_BadCommand U⟩, (List.forall_mem_nil _)⟩) (ev_var (pv 6))) ea_nil))))) (ess_cons (es_par3 (i := 1) (j := 2) (l := 3) rfl sc__law_values.nd rfl rfl rfl (by decide) (by decide) (by decide) rfl rfl rfl (ea_cons (ev_err (k := 0) ⟨_, _, _, x_BadSwitch U⟩ (hr.mono (by decide)) rfl (ev_var (pv 0))) (ea_cons (ev_err (k := 0) ⟨_, _, _, x_BadCount U⟩ (hr.mono (by decide)) rfl (ev_var (pv 0))) (ea_cons (ev_err (k := 0) ⟨_, _, _, x_Twice U⟩ (hr.mono (by decide)) rfl (ev_var (pv 0))) ea_nil))) (by rfl)) (ess_one (es_ret (ev_bin opr_add nx_add (ev_var (pv 7)) (ev_lst (ea_cons (ev_lst (ea_cons (ev_var (pv 1)) (ea_cons (ev_xf (List.forall_mem_cons.mpr ⟨⟨_, _, _, x_BadSwitch U⟩, (List.forall_mem_nil _)⟩) (ev_var (pv 1))) ea_nil))) (ea_cons (ev_lst (ea_cons (ev_var (pv 2)) (ea_cons (ev_xf (List.forall_mem_cons.mpr ⟨⟨_, _, _, x_BadCount U⟩, (List.forall_mem_nil _)⟩) (ev_var (pv 2))) ea_nil))) (ea_cons (ev_lst (ea_cons (ev_var (pv 3)) (ea_cons (ev_xf (List.forall_mem_cons.mpr ⟨⟨_, _, _, x_BadTrouble U⟩, (List.forall_mem_cons.mpr ⟨⟨_, _, _, x_BadCare U⟩, (List.forall_mem_cons.mpr ⟨⟨_, _, _, x_Twice U⟩, (List.forall_mem_cons.mpr ⟨⟨_, _, _, x_BadPart U⟩, (List.forall_mem_nil _)⟩)⟩)⟩)⟩) (ev_var (pv 3))) ea_nil))) ea_nil)))))))))))))))
  exact O
theorem g__law_values (U : Up fa fn K mg) : GFn P w K mg base "_law_values" 2 m__law_values := by
  obtain ⟨fd, _, b, k, O⟩ := o__law_values (P := P) (w := w) U
  exact ⟨(U.glo 9), k, fnR_of (O base) b⟩
def s_law : Sg := sSeq (sFor (iR1 (eCall (aCons (eC (.int 1)) (aCons (eCall (aCons (eC (.int 4)) (aCons (eCall (aCons (eVar 0) aNil) bLen) aNil)) bMin) aNil)) bMax)) (gN 1) (sSeq (sAsg (eCall (aCons (eVar 0) (aCons (eVar 1) aNil)) m__law_bag) (gN 2)) (sSeq (sAsg (eCall (aCons (eVar 2) (aCons (eLst (aCons (eCall (aCons (eVar 2) (aCons (e2 (eC (.int 10)) (eC (.int 20)) dPow) aNil)) m__law_take) (aCons (eC (.str "work")) (aCons (eC .non) (aCons (eC (.bl true)) (aCons (eNeg (eC (.int 5))) (aCons (eTup (aCons (eC (.str "on")) (aCons (eC (.int 1)) aNil))) (aCons (eLst (aCons (eC (.str "put")) aNil)) (aCons (eC (.str "")) (aCons (eTup (aNil)) aNil)))))))))) aNil)) m__law_of) (gN 3)) (sSeq (sAsg (e2 (eCall (aCons (eVar 3) aNil) m__law_values) (eCall (aCons (eVar 3) aNil) m__law_others) dAdd) (gN 4)) (sFor (iR1 (eC (.int 21))) (gN 5) (sSeq (sAsg (e2 (eVar 4) (eVar 5) dIx) (gU 2 (gsCons (gN 6) (gsCons (gN 7) (gsNil))))) (sSeq (sIf (eOr (eB (e2 (eVar 7) (eVar 3) dNe)) (eB (e2 (eCall (aCons (eVar 7) (aCons (eC (.ty "bool")) aNil)) (bIsi isd.tb)) (eCall (aCons (eVar 3) (aCons (eC (.ty "bool")) aNil)) (bIsi isd.tb)) dNe))) (sRet (eC (.bl false))) (sNext)) (sSeq (sIf (eB (e2 (eCall (aCons (eVar 6) aNil) m__law_classes) (eLc (iR1 (eC (.int 21))) (gN 9) (tYesE) (e2 (eVar 9) (eVar 5) dEq) [9]) dNe)) (sRet (eC (.bl false))) (sNext)) (sSeq (sAsg (eIf (eB (e2 (eVar 5) (eC (.int 15)) dLt)) (eC (.int 0)) (eIf (eB (e2 (eVar 5) (eC (.int 19)) dLt)) (eC (.int 1)) (eIf (eB (e2 (eVar 5) (eC (.int 20)) dLt)) (eC (.int 2)) (eC (.int 3))))) (gN 8)) (sIf (eB (e2 (eCall (aCons (eVar 6) aNil) m__law_bases) (eLc (iR1 (eC (.int 4))) (gN 9) (tYesE) (e2 (eVar 9) (eVar 8) dEq) [9]) dNe)) (sRet (eC (.bl false))) (sNext))))))))))) (sRet (eC (.bl true)))
def N_law : List Str := ["_law_script", "_law_at", "_law_bag_here", "_law_thing", "_law_found", "_law_k", "_law_error", "_law_kept", "_law_due", "_law_j"]
def m_law : Bk := bFn 1 (fnS 10 s_law)
theorem sc_law : FnScope ["_law_script", "_law_at", "_law_bag_here", "_law_thing", "_law_found", "_law_k", "_law_error", "_law_kept", "_law_due", "_law_j"] ["_law_script"] (defScope (top 30)) := ⟨rfl, rfl, rfl, by decide +kernel, rfl, by decide +kernel, by decide +kernel⟩
theorem o_law (U : Up fa fn K mg) : ∃ fd, (∀ (s : Shared) (us : List Value), us.length = (["_law_script"] : List Str).length → BindsTo s fd ⟨us, []⟩ ((["_law_script"] : List Str).zip us)) ∧ Binds K fd ["_law_script"] [] ∧ PySem.W.keepIn K (.ref (He.ga K "law")) = true ∧ ∀ base : Heap, FnOk P w K mg base (L2.CX P w) 4 (He.ga K "law") fd ["_law_script"] (spD K 1 (fnS 10 s_law)) := by
  obtain ⟨fd, F⟩ := U.c.def_ 7 (d := d_law) rfl
  have F : FunD K "law" "law" (defArgs (top 30)) (defBody (top 30)) (defScope (top 30)) [] [] (He.ga K "law") fd := F
  refine ⟨fd, FunD.bindsA F fun _ _ _ _ _ _ us hl => match us, hl with | [_], _ => rfl, FunD.bindsN F fun _ _ _ _ _ _ us hl => match us, hl with | [_], _ => rfl, F.kp, fun base => ?_⟩
  have O : FnOk P w K mg base (L2.CX P w) (3 + 1) (He.ga K "law") fd ["_law_script"] (spD K (["_law_script"] : List Str).length (fnS (["_law_script", "_law_at", "_law_bag_here", "_law_thing", "_law_found", "_law_k", "_law_error", "_law_kept", "_law_due", "_law_j"] : List Str).length s_law)) := by
    refine fn_ok F sc_law fun cdv A outer s H E hr => ?_
    exact ess_cons (es_for (passes_of rfl) rfl (ei_range1 rfl (U.free 2) (ev_callB (cr_max' rfl) nb_max rfl (U.free 5) boot_max (ea_cons (ev_int) (ea_cons (ev_callB (cr_min' rfl) nb_min rfl (U.free 4) boot_min (ea_cons (ev_int) (ea_cons (ev_callB cr_len' nb_len rfl (U.free 3) boot_len (ea_cons (ev_var (pv 0)) ea_nil)) ea_nil))) ea_nil)))) (eg_name (i := 1) sc_law.nd rfl (by first | exact Or.inl rfl | exact Or.inr rfl)) (nt_name _) (ess_cons (es_set (i := 2) sc_law.nd rfl (by first | exact Or.inl rfl | exact Or.inr rfl) (ev_call (g__law_bag U) (hr.mono (by decide)) (takes_of rfl rfl rfl rfl) rfl (ea_cons (ev_var (pv 0)) (ea_cons (ev_var (pv 1)) ea_nil)))) (ess_cons (es_set (i := 3) sc_law.nd rfl (by first | exact Or.inl rfl | exact Or.inr rfl) (ev_call (g__law_of U) (hr.mono (by decide)) (takes_of rfl rfl rfl rfl) rfl (ea_cons (ev_var (pv 2)) (ea_cons (ev_lst (ea_cons (ev_call (g__law_take U) (hr.mono (by decide)) (takes_of rfl rfl rfl rfl) rfl (ea_cons (ev_var (pv 2)) (ea_cons (ev_bin opr_pow nx_pow (ev_int) (ev_int)) ea_nil))) (ea_cons (ev_str) (ea_cons (ev_non) (ea_cons (ev_bl) (ea_cons (ev_neg (ev_int)) (ea_cons (ev_tup (ea_cons (ev_str) (ea_cons (ev_int) ea_nil))) (ea_cons (ev_lst (ea_cons (ev_str) ea_nil)) (ea_cons (ev_str) (ea_cons (ev_tup (ea_nil)) ea_nil)))))))))) ea_nil)))) (ess_cons (es_set (i := 4) sc_law.nd rfl (by first | exact Or.inl rfl | exact Or.inr rfl) (ev_bin opr_add nx_add (ev_call (g__law_values U) (hr.mono (by decide)) (takes_of rfl rfl rfl rfl) rfl (ea_cons (ev_var (pv 3)) ea_nil)) (ev_call (g__law_others U) (hr.mono (by decide)) (takes_of rfl rfl rfl rfl) rfl (ea_cons (ev_var (pv 3)) ea_nil)))) (ess_one (es_for (passes_of rfl) rfl (ei_range1 rfl (U.free 2) (ev_int)) (eg_name (i := 5) sc_law.nd rfl (by first | exact Or.inl rfl | exact Or.inr rfl)) (nt_name _) (ess_cons (es_asg (ev_ix (ev_var (pv 4)) (ev_var (pv 5)) (fun _ _ => rfl)) (eg_seq rfl (egs_cons (eg_name (i := 6) sc_law.nd rfl (by first | exact Or.inl rfl | exact Or.inr rfl)) (egs_cons (eg_name (i := 7) sc_law.nd rfl (by first | exact Or.inl rfl | exact Or.inr rfl)) (egs_nil)))) (nt_seq _ _ (nts_cons (nt_name _) (nts_cons (nt_name _) (nts_nil))))) (ess_cons (es_if (EW.et (ew_or (et_cmp (opr_ne hr.units) nx_ne (ev_var (pv 7)) (ev_var (pv 3)) (nomark _)) (ew_or1 (et_cmp (opr_ne hr.units) nx_ne (ev_callB (cr_isi (isOk_of (U.c.fact 13))) nb_isi rfl (U.free 12) boot_isinstance (ea_cons (ev_var (pv 7)) (ea_cons (ev_bty rfl (U.free 11) boot_bool) ea_nil))) (ev_callB (cr_isi (isOk_of (U.c.fact 13))) nb_isi rfl (U.free 12) boot_isinstance (ea_cons (ev_var (pv 3)) (ea_cons (ev_bty rfl (U.free 11) boot_bool) ea_nil))) (nomark _))))) (ess_one (es_ret (ev_bl))) (ess_nil)) (ess_cons (es_if (et_cmp (opr_ne hr.units) nx_ne (ev_call (g__law_classes U) (hr.mono (by decide)) (takes_of rfl rfl rfl rfl) rfl (ea_cons (ev_var (pv 6)) ea_nil)) (ev_lc (own := [("_law_j", 9)]) rfl sc_law.nd (ei_range1 rfl (U.free 2) (ev_int)) (show BlkOk N_law (defScope (top 30)) _ _ from ⟨rfl, by decide +kernel, by decide +kernel, by decide +kernel, by decide +kernel⟩) (fun s H C cl fp => ec_name (i := 9) (by decide) sc_law.nd rfl (by first | exact Or.inl rfl | exact Or.inr rfl)) (fun s H C cl fp => ets_nil) (fun s H C cl fp => ev_cmp (opr_eq hr.units) nx_eq (ev_var (pv 9)) (ev_var (pv 5)) (nomark _))) (nomark _)) (ess_one (es_ret (ev_bl))) (ess_nil)) (ess_cons (es_set (i := 8) sc_law.nd rfl (by first | exact Or.inl rfl | exact Or.inr rfl) (ev_if (et_cmp opr_lt nx_lt (ev_var (pv 5)) (ev_int) (nomark _)) (ev_int) (ev_if (et_cmp opr_lt nx_lt (ev_var (pv 5)) (ev_int) (nomark _)) (ev_int) (ev_if (et_cmp opr_lt nx_lt (ev_var (pv 5)) (ev_int) (nomark _)) (ev_int) (ev_int))))) (ess_one (es_if (et_cmp (opr_ne hr.units) nx_ne (ev_call (g__law_bases U) (hr.mono (by decide)) (takes_of rfl rfl rfl rfl) rfl (ea_cons (ev_var (pv 6)) ea_nil)) (ev_lc (own := [("_law_j", 9)]) rfl sc_law.nd (ei_range1 rfl (U.free 2) (ev_int)) (show BlkOk N_law (defScope (top 30)) _ _ from ⟨rfl, by decide +kernel, by decide +kernel, by decide +kernel, by decide +kernel⟩) (fun s H C cl fp => ec_name (i := 9) (by decide) sc_law.nd rfl (by first | exact Or.inl rfl | exact Or.inr rfl)) (fun s H C cl fp => ets_nil) (fun s H C cl fp => ev_cmp (opr_eq hr.units) nx_eq (ev_var (pv 9)) (ev_var (pv 8)) (nomark _))) (nomark _)) (ess_one (es_ret (ev_bl))) (ess_nil))))))))))))) (ess_one (es_ret (ev_bl)))
  exact O
theorem g_law (U : Up fa fn K mg) : GFn P w K mg base "law" 4 m_law := by
  obtain ⟨fd, _, b, k, O⟩ := o_law (P := P) (w := w) U
  exact ⟨(U.glo 1), k, fnR_of (O base) b⟩
end
abbrev R : PySem.W.OpenRow := PySem.W.OpenLaw.row PySem.Challenge.rw_selfchains_k27_errors_by_hand
abbrev hk : PySem.W.Hook := hookX 5 fa fn
def ob (s : PySem.W.SharedT) : He.AlD := obsXG 5 fa fn (HandSHeadRun.getT s)
theorem ob_eq (s : PySem.W.SharedT) : ob s = hk.obs s.abs := obsXG_eq (HandSHeadRun.getT_eq s)
def loose : List PySem.Str := (["__name__", "BadRow", "BadStart", "BadWatch", "BadLapse", "BadStanding", "BadMove", "BadRoom", "BadTrouble", "BadHarm", "BadCare", "BadText", "BadCommand", "BadSwitch", "BadCount", "Twice", "BadPlace", "BadIndex", "BadPart", "NoStanding", "TooMany", "Refused", "_law_bag", "_law_take", "_law_of"] : List PySem.Str) ++ (["_law_values", "_law_others", "_law_classes", "_law_bases"] : List PySem.Str)
theorem run (w : World) : HandSHeadRun.RunEq R (PySem.W.view R.prog [30]) hk ob 12000 loose w := by
  intro os
  kernel_rfl
theorem walk (hs : ∀ ns : List Int, ns.length ≤ 63 → ∃ S', fnS 10 s_law [.loc 0] [.ro (ns.map D.int)] = .ok (.bl true) S') : ∀ {w : World} {mg : Str → Option Value} {f : Addr} {h : Heap}, (∃ K, K.In h ∧ SaysX fa fn K) → h.Ns mainGlobals mg → mg "law" = some (.ref f) →
    ∃ (K : PySem.W.Frag) (fd : FuncData) (sp : Sp), K.In h ∧ (∀ (s : Shared) (u : Value), BindsTo s fd ⟨[u], []⟩ [("_law_script", u)]) ∧
        (∀ (H : Hp) (a : Addr) (ns : List Int), ns.length ≤ 63 → Only H → SqL K H a (ns.map V.int) → sp [.ref a] H (fun v _ => v = .bl true) fun _ _ _ => False) ∧
        ∀ base : Heap, K.In base → base.Ns mainGlobals mg → FnOk (PySem.Challenge.rw_selfchains_k27_errors_by_hand).prog w K mg base L2.CX0 4 f fd ["_law_script"] sp := by
  intro w mg f h ⟨K, X, c⟩ G hf
  have U : Up fa fn K mg := ⟨⟨h, X, G⟩, c⟩
  have e := hf.symm.trans (U.glo 1)
  cases e
  obtain ⟨fd, b, _, _, O⟩ := o_law (P := (PySem.Challenge.rw_selfchains_k27_errors_by_hand).prog) (w := w) U
  refine ⟨K, fd, fun vs H Q _ => spD K 1 (fnS 10 s_law) vs H Q fun _ _ _ => False, X, fun s u => b s [u] rfl, fun H a ns hl _ hS => law_spec (U.c.fact 0) hS (hs ns hl), fun base _ _ => fnOk0 (O base)⟩
end K27

namespace K27
open PySem PySem.Spec PyProof.Rows L2 Ev
def Kept (S : Store) (d : D) : List (Str × Str) → List D → Prop
  | [], [] => True
  | c :: cs, x :: xs => (∃ a e, x = .loc a ∧ lstAt S a = some [.loc e, d] ∧ S[e]? = some (.exc c.1 [(c.2, d)])) ∧ Kept S d cs xs
  | _, _ => False
def csO : List (Str × Str) := [("BadPlace", "place"), ("BadIndex", "index"), ("BadPart", "name"), ("NoStanding", "standing"), ("TooMany", "limit"), ("Refused", "move")]
def csV : List (Str × Str) := [("BadRow", "row"), ("BadStart", "word"), ("BadWatch", "watch"), ("BadLapse", "lapse"), ("BadStanding", "standing"), ("BadMove", "move"), ("BadRoom", "room"), ("BadTrouble", "name"), ("BadHarm", "word"), ("BadCare", "name"), ("BadText", "text"), ("BadCommand", "command"), ("BadSwitch", "value"), ("BadCount", "count"), ("Twice", "name")]
theorem others_ok (d : D) (S : Store) : ∃ T l ds, m__law_others [d] S = .ok (.loc l) (S ++ T) ∧ (S ++ T)[l]? = some (.lst ds) ∧ Kept (S ++ T) d csO ds := by
  simp (decide := true) only [m__law_others, bFn, fnS, s__law_others, startE, sSeq, sPar3, aCons, aNil, eErr, eVar, Out.bind_ok, List.length_cons, List.length_nil, Nat.reduceAdd, if_true, List.map_cons, List.map_nil, List.replicate, List.cons_append, List.nil_append, Nat.reduceSub, List.getElem?_cons_zero, List.getElem?_cons_succ, Nat.reduceLT, sAsg, eLst, eXf, eTup, excAt, List.append_assoc, List.length_append, get_at, get_at0, List.set_cons_zero, List.set_cons_succ, Fl.then, List.mem_singleton, ite_true, List.lookup_cons_self, newL_ok, Nat.reduceLeDiff, Nat.add_assoc, gN, sRet, e2, dAdd, retOf]
  refine ⟨_, _, _, rfl, Eq.trans (by simp only [get_at, get_at0, List.getElem?_cons_zero, List.getElem?_cons_succ]; rfl) rfl, ?_⟩
  simp only [Kept, csO, and_true]
  repeat' apply And.intro
  all_goals exact ⟨_, _, rfl, by simp only [lstAt, get_at, get_at0, List.getElem?_cons_zero, List.getElem?_cons_succ]; rfl, by simp only [get_at, get_at0, List.getElem?_cons_zero, List.getElem?_cons_succ]⟩
theorem values_ok (d : D) (S : Store) : ∃ T l ds, m__law_values [d] S = .ok (.loc l) (S ++ T) ∧ (S ++ T)[l]? = some (.lst ds) ∧ Kept (S ++ T) d csV ds := by
  simp (decide := true) only [m__law_values, bFn, fnS, s__law_values, startE, sSeq, sPar3, aCons, aNil, eErr, eVar, Out.bind_ok, List.length_cons, List.length_nil, Nat.reduceAdd, if_true, List.map_cons, List.map_nil, List.replicate, List.cons_append, List.nil_append, Nat.reduceSub, List.getElem?_cons_zero, List.getElem?_cons_succ, Nat.reduceLT, sAsg, eLst, eXf, eTup, excAt, List.append_assoc, List.length_append, get_at, get_at0, List.set_cons_zero, List.set_cons_succ, Fl.then, List.mem_singleton, ite_true, List.lookup_cons_self, newL_ok, Nat.reduceLeDiff, Nat.add_assoc, gN, sRet, e2, dAdd, retOf, sExpr, eBm, tyOk, bAppend, sPar, set_at, set_at0, List.length_set]
  refine ⟨_, _, _, rfl, Eq.trans (by simp only [get_at, get_at0, List.getElem?_cons_zero, List.getElem?_cons_succ]; rfl) rfl, ?_⟩
  simp only [Kept, csV, and_true]
  repeat' apply And.intro
  all_goals exact ⟨_, _, rfl, by simp only [lstAt, get_at, get_at0, List.getElem?_cons_zero, List.getElem?_cons_succ]; rfl, by simp only [get_at, get_at0, List.getElem?_cons_zero, List.getElem?_cons_succ]⟩
end K27

namespace K27
open PySem PySem.Spec PyProof.Rows L2 Ev
def IntBag (S : Store) (b : Nat) : Prop := ∃ x y : Int, S[b]? = some (.lst [.int x, .int y])
theorem at0 (a : D) (r : List D) : atI (a :: r) 0 = some a := atI_nat (j := 0) rfl
theorem at1 (a b : D) (r : List D) : atI (a :: b :: r) 1 = some b := atI_nat (j := 1) rfl
theorem ix0 (n : Nat) : ixN (n + 1) 0 = some 0 := by unfold ixN; rw [if_pos (by omega), if_pos (by omega)]; rfl
theorem ix1 (n : Nat) : ixN (n + 2) 1 = some 1 := by unfold ixN; rw [if_pos (by omega), if_pos (by omega)]; rfl
theorem set_get {S : Store} {b : Nat} {o o' : O} (h : S[b]? = some o) : (S.set b o')[b]? = some o' := List.getElem?_set_self (List.getElem?_eq_some_iff.mp h).1
theorem set_get_ne {S : Store} {b l : Nat} {o' : O} (h : b ≠ l) : (S.set b o')[l]? = S[l]? := List.getElem?_set_ne h
theorem take_ok {S : Store} {b : Nat} {n : Int} (h : IntBag S b) (hn : 0 < n) (hl : n.natAbs.log2 < 9000) : ∃ r x y, m__law_take [.loc b, .int n] S = .ok (.int r) (S.set b (.lst [.int x, .int y])) ∧ 0 ≤ r ∧ r < n := by
  obtain ⟨x, y, h⟩ := h
  by_cases hx : 0 < x
  · refine ⟨x % n, x / n, y, ?_, Int.emod_nonneg _ (by omega), Int.emod_lt_of_pos _ hn⟩
    simp [m__law_take, bFn, fnS, s__law_take, startE, sSeq, sIf, eB, e2, eVar, eC, dIx, lstAt, h, at0, dGt, asB, hx, sAsg, eCall, aCons, aNil, bInt, dMod, hn, gN, Fl.then, dDiv, hl, gIx, ixN, sRet, retOf, sNext]
  · refine ⟨(((y * 48271 + 12820163) % 2147483587) / 17 * 69697) % 2147483489 / 32 % n, x, (y * 48271 + 12820163) % 2147483587, ?_, Int.emod_nonneg _ (by omega), Int.emod_lt_of_pos _ hn⟩
    have hs : ∀ o, (S.set b o)[b]? = some o := fun o => set_get h
    have l1 : Nat.log2 17 < 9000 := by decide +kernel
    have l2 : Nat.log2 32 < 9000 := by decide +kernel
    simp [m__law_take, bFn, fnS, s__law_take, startE, sSeq, sIf, eB, e2, eVar, eC, dIx, lstAt, h, at0, at1, dGt, asB, hx, sAsg, eCall, aCons, aNil, bInt, dMod, hn, gN, Fl.then, dDiv, hl, gIx, ixN, sRet, retOf, sNext, dMul, dAdd, hs, l1, l2]
theorem of_ok {S : Store} {b l : Nat} {ds : List D} (h : IntBag S b) (hl : S[l]? = some (.lst ds)) (hn : 0 < ds.length) (h1 : ds.length ≤ 1000) (ne : b ≠ l) : ∃ d x y, m__law_of [.loc b, .loc l] S = .ok d (S.set b (.lst [.int x, .int y])) ∧ d ∈ ds := by
  obtain ⟨r, x, y, h2, h3, h4⟩ := take_ok (n := (ds.length : Int)) h (by omega) (by
    have : (ds.length : Int).natAbs = ds.length := by omega
    rw [this]
    exact Nat.lt_of_le_of_lt (Nat.log2_le_self _) (by omega))
  obtain ⟨j, rfl⟩ := Int.eq_ofNat_of_zero_le h3
  have hj : j < ds.length := by omega
  refine ⟨ds[j], x, y, ?_, List.getElem_mem hj⟩
  have e1 : lstAt (S.set b (.lst [.int x, .int y])) l = some ds := lstAt_of (by rw [set_get_ne ne]; exact hl)
  have e2' : atI ds (j : Int) = some ds[j] := atI_nat (List.getElem?_eq_getElem hj)
  simp [m__law_of, bFn, fnS, s__law_of, startE, sRet, e2, eVar, eCall, aCons, aNil, bLen, lstAt_of hl, h2, dIx, e1, e2', retOf]
theorem sIx_small {n : Nat} : ∀ {lo : Option Int}, True := fun {_} => trivial
theorem bag_ok {S : Store} {ns : List Int} {k : Nat} (h : S[0]? = some (.ro (ns.map D.int))) : ∃ T b, m__law_bag [.loc 0, .int k] S = .ok (.loc b) (S ++ T) ∧ IntBag (S ++ T) b ∧ b ≠ 0 := by
  have hL : lstAt S 0 = some (ns.map D.int) := by unfold lstAt; rw [h]
  have hpos : 0 < S.length := (List.getElem?_eq_some_iff.mp h).1
  -- the first number
  obtain ⟨i, hi⟩ : ∃ i : Int, eIf (eB (e2 (eVar 1) (eCall (aCons (eVar 0) aNil) bLen) dLt)) (e2 (eVar 0) (eVar 1) dIx) (eC (.int 0)) [some (.loc 0), some (.int k), none, none, none, none] S = .ok (.int i) S := by
    by_cases hk : k < ns.length
    · refine ⟨ns[k], ?_⟩
      have e : atI (ns.map D.int) (k : Int) = some (.int ns[k]) := atI_nat (by rw [List.getElem?_map, List.getElem?_eq_getElem hk]; rfl)
      simp [eIf, eB, e2, eVar, eCall, aCons, aNil, bLen, hL, dLt, asB, hk, dIx, e]
    · refine ⟨0, ?_⟩
      simp [eIf, eB, e2, eVar, eCall, aCons, aNil, bLen, hL, dLt, asB, hk, eC]
  -- the loop
  have ecut : cutL (ns.map D.int) none (some 60) = (cutL ns none (some 60)).map D.int := by
    unfold cutL
    simp only [List.length_map, List.map_take, List.map_drop]
  have hlen : (cutL ns none (some 60)).length ≤ 60 := by
    unfold cutL
    rw [List.length_take]
    refine Nat.le_trans (Nat.min_le_left _ _) ?_
    have e60 : HT.sIx ns.length ns.length (some 60) = min 60 ns.length := HT.sIx_nat _ _ 60
    rw [e60]
    omega
  generalize cutL ns none (some 60) = cs at ecut hlen
  have hit : iE (eSl (eVar 0) none (some (eC (.int 60)))) [some (.loc 0), some (.int k), some (.int i), some (.int (4099 * k + 31)), none, none] S = .ok (srcE S.length cs.length) (S ++ [.lst (cs.map D.int)]) := by
    have e1 : newL (cs.map D.int) S = .ok (.loc S.length) (S ++ [.lst (cs.map D.int)]) := newL_ok (by rw [List.length_map]; omega)
    have e3 : lstAt (S ++ [.lst (cs.map D.int)]) S.length = some (cs.map D.int) := by simp [lstAt, get_at0]
    simp [iE, eSl, eVar, eP, eC, asI, dSl, hL, ecut, e1, e3]
  have e3 : lstAt (S ++ [.lst (cs.map D.int)]) S.length = some (cs.map D.int) := by simp [lstAt, get_at0]
  obtain ⟨e', S', h1, m, a, b, rfl, rfl⟩ := sfor_inv (n := cs.length) (t := gU 2 (gsCons (gN 4) (gsCons (gN 5) gsNil)))
    (g := sAsg (e2 (eCall (aCons (e2 (e2 (e2 (e2 (eVar 3) (eC (.int 40087)) dMul) (e2 (eCall (aCons (eVar 5) aNil) bInt) (eC (.int 2147483549)) dMod) dAdd) (e2 (eC (.int 211)) (eVar 4) dMul) dAdd) (eC (.int 7)) dAdd) aNil) bInt) (eC (.int 2147483647)) dMod) (gN 3))
    (d := fun j => pairD j (.int (cs.getD j 0)))
    (fun (_ : Nat) e S' => ∃ (m : Int) (a b : Option D), e = [some (.loc 0), some (.int k), some (.int i), some (.int m), a, b] ∧ S' = S ++ [.lst (cs.map D.int)]) hit rfl
    (fun j e S' ⟨m, a, b, he, hS⟩ => by
      subst hS
      simp only [srcE, e3, Option.map_some, List.getElem?_map]
      by_cases hj : j < cs.length
      · rw [List.getElem?_eq_getElem hj, if_pos hj]
        simp [hj]
      · rw [List.getElem?_eq_none (by omega), if_neg hj]
        rfl)
    (fun j e S' hj ⟨m, a, b, he, hS⟩ => by
      subst he
      subst hS
      refine ⟨[some (.loc 0), some (.int k), some (.int i), some (.int m), some (.int j), some (.int (cs.getD j 0))], _, [some (.loc 0), some (.int k), some (.int i), some (.int ((m * 40087 + cs.getD j 0 % 2147483549 + 211 * j + 7) % 2147483647)), some (.int j), some (.int (cs.getD j 0))], _, rfl, ?_, _, _, _, rfl, rfl⟩
      simp [sAsg, e2, eCall, aCons, aNil, eVar, eC, bInt, dMul, dMod, dAdd, gN])
    ⟨4099 * k + 31, none, none, rfl, rfl⟩
  have h0 : sAsg (e2 (e2 (eC (.int 4099)) (eVar 1) dMul) (eC (.int 31)) dAdd) (gN 3) [some (.loc 0), some (.int k), some (.int i), none, none, none] S = .ok (.nx [some (.loc 0), some (.int k), some (.int i), some (.int (4099 * k + 31)), none, none]) S := by
    simp [sAsg, e2, eC, eVar, dMul, dAdd, gN]
  have key : ∃ x, s__law_bag [some (.loc 0), some (.int k), none, none, none, none] S = .ok (.rt (.loc (S.length + 1))) (S ++ [.lst (cs.map D.int), .lst [.int x, .int m]]) := by
    unfold s__law_bag
    rw [sSeq_ok (sAsg_ok hi)]
    simp only [List.set_cons_zero, List.set_cons_succ]
    rw [sSeq_ok h0, sSeq_ok h1]
    by_cases hb : 1000000000000000000 ≤ (if i < 0 then -i else i)
    · exact ⟨if i < 0 then -i else i, by simp [e2, eC, eVar, sRet, eLst, aCons, aNil, eIf, eB, eCall, bAbs, dPow, dGe, asB, hb, newL_ok]⟩
    · exact ⟨0, by simp [e2, eC, eVar, sRet, eLst, aCons, aNil, eIf, eB, eCall, bAbs, dPow, dGe, asB, hb, newL_ok]⟩
  obtain ⟨x, key⟩ := key
  exact ⟨_, _, fn_rt rfl key, ⟨x, m, by rw [get_at]; rfl⟩, by omega⟩
end K27

namespace K27
open PySem PySem.Spec PyProof.Rows L2 Ev
def names21 : List Str := ["BadRow", "BadStart", "BadWatch", "BadLapse", "BadStanding", "BadMove", "BadRoom", "BadTrouble", "BadHarm", "BadCare", "BadText", "BadCommand", "BadSwitch", "BadCount", "Twice", "BadPlace", "BadIndex", "BadPart", "NoStanding", "TooMany", "Refused"]
theorem tbC : ∀ C ∈ names21, ∀ D ∈ names21, isd.tb (.exc C) (.own D) = some (decide (D = C)) := by decide +kernel
def due (k : Nat) : Nat := if k < 15 then 0 else if k < 19 then 1 else if k < 20 then 2 else 3
def C_ (k : Nat) : Str := names21.getD k ("" : Str)
theorem tbB : ∀ k, k < 21 → isd.tb (.exc (C_ k)) (.ty "ValueError") = some (decide (0 = due k)) ∧ isd.tb (.exc (C_ k)) (.ty "LookupError") = some (decide (1 = due k)) ∧ isd.tb (.exc (C_ k)) (.ty "OverflowError") = some (decide (2 = due k)) ∧ isd.tb (.exc (C_ k)) (.ty "RuntimeError") = some (decide (3 = due k)) := by decide +kernel
theorem C_mem : ∀ k, k < 21 → C_ k ∈ names21 := by decide +kernel
theorem eqs : ∀ k, k < 21 → (names21.map fun D => decide (D = C_ k)) = (List.range 21).map fun j => decide (j = k) := by decide +kernel
theorem isi_own {S : Store} {e : Nat} {C D : Str} {fs : List (Str × Ev.D)} {b : Bool} (h : S[e]? = some (.exc C fs)) (t : isd.tb (.exc C) (.own D) = some b) (T : Store) : bIsi isd.tb [.loc e, .glo D] (S ++ T) = .ok (.bl b) (S ++ T) := by
  simp [bIsi, tyOf, get_app h, clsOf, t]
theorem isi_ty {S : Store} {e : Nat} {C : Str} {D : String} {fs : List (Str × Ev.D)} {b : Bool} (h : S[e]? = some (.exc C fs)) (t : isd.tb (.exc C) (.ty D) = some b) (T : Store) : bIsi isd.tb [.loc e, .ty D] (S ++ T) = .ok (.bl b) (S ++ T) := by
  simp [bIsi, tyOf, get_app h, clsOf, t]
theorem classes_ok {S : Store} {e k : Nat} {fs : List (Str × D)} (h : S[e]? = some (.exc (C_ k) fs)) (hk : k < 21) : ∃ T l, m__law_classes [.loc e] S = .ok (.loc l) (S ++ T) ∧ (S ++ T)[l]? = some (.lst ((names21.map fun D => decide (D = C_ k)).map D.bl)) := by
  have hC := C_mem k hk
  generalize C_ k = C at h hC
  have h0 := isi_own h (tbC C hC "BadRow" (by decide))
  have g0 := h0 []
  rw [List.append_nil] at g0
  have h1 := isi_own h (tbC C hC "BadStart" (by decide))
  have g1 := h1 []
  rw [List.append_nil] at g1
  have h2 := isi_own h (tbC C hC "BadWatch" (by decide))
  have g2 := h2 []
  rw [List.append_nil] at g2
  have h3 := isi_own h (tbC C hC "BadLapse" (by decide))
  have g3 := h3 []
  rw [List.append_nil] at g3
  have h4 := isi_own h (tbC C hC "BadStanding" (by decide))
  have g4 := h4 []
  rw [List.append_nil] at g4
  have h5 := isi_own h (tbC C hC "BadMove" (by decide))
  have g5 := h5 []
  rw [List.append_nil] at g5
  have h6 := isi_own h (tbC C hC "BadRoom" (by decide))
  have g6 := h6 []
  rw [List.append_nil] at g6
  have h7 := isi_own h (tbC C hC "BadTrouble" (by decide))
  have g7 := h7 []
  rw [List.append_nil] at g7
  have h8 := isi_own h (tbC C hC "BadHarm" (by decide))
  have g8 := h8 []
  rw [List.append_nil] at g8
  have h9 := isi_own h (tbC C hC "BadCare" (by decide))
  have g9 := h9 []
  rw [List.append_nil] at g9
  have h10 := isi_own h (tbC C hC "BadText" (by decide))
  have g10 := h10 []
  rw [List.append_nil] at g10
  have h11 := isi_own h (tbC C hC "BadCommand" (by decide))
  have g11 := h11 []
  rw [List.append_nil] at g11
  have h12 := isi_own h (tbC C hC "BadSwitch" (by decide))
  have g12 := h12 []
  rw [List.append_nil] at g12
  have h13 := isi_own h (tbC C hC "BadCount" (by decide))
  have g13 := h13 []
  rw [List.append_nil] at g13
  have h14 := isi_own h (tbC C hC "Twice" (by decide))
  have g14 := h14 []
  rw [List.append_nil] at g14
  have h15 := isi_own h (tbC C hC "BadPlace" (by decide))
  have g15 := h15 []
  rw [List.append_nil] at g15
  have h16 := isi_own h (tbC C hC "BadIndex" (by decide))
  have g16 := h16 []
  rw [List.append_nil] at g16
  have h17 := isi_own h (tbC C hC "BadPart" (by decide))
  have g17 := h17 []
  rw [List.append_nil] at g17
  have h18 := isi_own h (tbC C hC "NoStanding" (by decide))
  have g18 := h18 []
  rw [List.append_nil] at g18
  have h19 := isi_own h (tbC C hC "TooMany" (by decide))
  have g19 := h19 []
  rw [List.append_nil] at g19
  have h20 := isi_own h (tbC C hC "Refused" (by decide))
  have g20 := h20 []
  rw [List.append_nil] at g20
  simp only [m__law_classes, bFn, fnS, s__law_classes, startE, sSeq, aCons, aNil, eVar, eC, eCall, Out.bind_ok, List.length_cons, List.length_nil, Nat.reduceAdd, if_true, List.map_cons, List.map_nil, List.replicate, List.cons_append, List.nil_append, Nat.reduceSub, List.getElem?_cons_zero, List.getElem?_cons_succ, sAsg, eLst, List.append_assoc, List.length_append, get_at, get_at0, List.set_cons_zero, List.set_cons_succ, Fl.then, newL_ok, Nat.reduceLeDiff, Nat.add_assoc, gN, sRet, e2, dAdd, retOf, names21, h0, g0, h1, g1, h2, g2, h3, g3, h4, g4, h5, g5, h6, g6, h7, g7, h8, g8, h9, g9, h10, g10, h11, g11, h12, g12, h13, g13, h14, g14, h15, g15, h16, g16, h17, g17, h18, g18, h19, g19, h20, g20]
  exact ⟨_, _, rfl, Eq.trans (by simp only [get_at, get_at0, List.getElem?_cons_zero, List.getElem?_cons_succ]) rfl⟩
theorem bases_ok {S : Store} {e k : Nat} {fs : List (Str × D)} (h : S[e]? = some (.exc (C_ k) fs)) (hk : k < 21) : ∃ T l, m__law_bases [.loc e] S = .ok (.loc l) (S ++ T) ∧ (S ++ T)[l]? = some (.lst (((List.range 4).map fun j => decide (j = due k)).map D.bl)) := by
  obtain ⟨t0, t1, t2, t3⟩ := tbB k hk
  have g0 := isi_ty h t0 []
  have g1 := isi_ty h t1 []
  have g2 := isi_ty h t2 []
  have g3 := isi_ty h t3 []
  rw [List.append_nil] at g0 g1 g2 g3
  simp only [m__law_bases, bFn, fnS, s__law_bases, startE, sSeq, aCons, aNil, eVar, eC, eCall, Out.bind_ok, List.length_cons, List.length_nil, Nat.reduceAdd, if_true, List.map_cons, List.map_nil, List.replicate, List.cons_append, List.nil_append, Nat.reduceSub, List.getElem?_cons_zero, List.getElem?_cons_succ, eLst, newL_ok, Nat.reduceLeDiff, sRet, retOf, g0, g1, g2, g3]
  exact ⟨_, _, rfl, Eq.trans (by simp only [get_at, get_at0, List.getElem?_cons_zero, List.getElem?_cons_succ]; rfl) rfl⟩
end K27

namespace K27
open PySem PySem.Spec PyProof.Rows L2 Ev
/-! lists of True and False -/
theorem pyDs_bl (lk : Nat → Option (List PyData)) : ∀ bs : List Bool, pyDs lk (bs.map D.bl) = some (bs.map PyData.bool)
  | [] => rfl
  | b :: bs => by simp [pyDs, pyD, pyDs_bl lk bs]
theorem toPy_bl {S : Store} {l : Nat} {bs : List Bool} (h : S[l]? = some (.lst (bs.map D.bl))) : toPy S (.loc l) = some (.list (bs.map PyData.bool)) := by
  simp [toPy, pyD, lkS, h, pyDs_bl]
theorem same21 : ∀ k, k < 21 → SeqAt.shaped (.list (((List.range 21).map fun j => decide (j = k)).map PyData.bool)) = true ∧ PyData.eqv (.list (((List.range 21).map fun j => decide (j = k)).map PyData.bool)) (.list (((List.range 21).map fun j => decide (j = k)).map PyData.bool)) = true := by decide +kernel
theorem same4 : ∀ k, k < 4 → SeqAt.shaped (.list (((List.range 4).map fun j => decide (j = k)).map PyData.bool)) = true ∧ PyData.eqv (.list (((List.range 4).map fun j => decide (j = k)).map PyData.bool)) (.list (((List.range 4).map fun j => decide (j = k)).map PyData.bool)) = true := by decide +kernel
theorem ne_bl {S : Store} {l l' : Nat} {bs : List Bool} (h : S[l]? = some (.lst (bs.map D.bl))) (h' : S[l']? = some (.lst (bs.map D.bl))) (s : SeqAt.shaped (.list (bs.map PyData.bool)) = true ∧ PyData.eqv (.list (bs.map PyData.bool)) (.list (bs.map PyData.bool)) = true) : dNe (.loc l) (.loc l') S = .ok (.bl false) S := by
  simp [dNe, dEqB, toPy_bl h, toPy_bl h', s.1, s.2]
/-- the thing: it is itself, in every later store -/
def Good (d : D) (S : Store) : Prop := ∀ T, dNe d d (S ++ T) = .ok (.bl false) (S ++ T) ∧ ∃ b, bIsi isd.tb [d, .ty "bool"] (S ++ T) = .ok (.bl b) (S ++ T)
theorem Good.app {d : D} {S : Store} (h : Good d S) (T : Store) : Good d (S ++ T) := fun U => by rw [List.append_assoc]; exact h _
theorem Kept.get {S : Store} {d : D} : ∀ {cs : List (Str × Str)} {ds : List D} {k : Nat} {c : Str × Str}, Kept S d cs ds → cs[k]? = some c → ∃ a e, ds[k]? = some (.loc a) ∧ lstAt S a = some [.loc e, d] ∧ S[e]? = some (.exc c.1 [(c.2, d)])
  | [], _, k, c, _, h => by simp at h
  | c' :: cs, [], k, c, h, _ => by simp [Kept] at h
  | c' :: cs, x :: xs, 0, c, h, hc => by
    simp at hc; subst hc
    obtain ⟨⟨a, e, rfl, h1, h2⟩, _⟩ := h
    exact ⟨a, e, rfl, h1, h2⟩
  | c' :: cs, x :: xs, k + 1, c, h, hc => by
    obtain ⟨a, e, h1, h2⟩ := Kept.get (k := k) h.2 (by simpa using hc)
    exact ⟨a, e, by simpa using h1, h2⟩
theorem Kept.app {S T : Store} {d : D} : ∀ {cs : List (Str × Str)} {ds : List D}, Kept S d cs ds → Kept (S ++ T) d cs ds
  | [], [], _ => trivial
  | [], _ :: _, h => by simp [Kept] at h
  | _ :: _, [], h => by simp [Kept] at h
  | c :: cs, x :: xs, ⟨⟨a, e, h1, h2, h3⟩, h⟩ => ⟨⟨a, e, h1, lst_app h2, get_app h3⟩, Kept.app h⟩
theorem Kept.join {S : Store} {d : D} : ∀ {cs cs' : List (Str × Str)} {ds ds' : List D}, Kept S d cs ds → Kept S d cs' ds' → Kept S d (cs ++ cs') (ds ++ ds')
  | [], _, [], _, _, h => h
  | [], _, _ :: _, _, h, _ => by simp [Kept] at h
  | _ :: _, _, [], _, h, _ => by simp [Kept] at h
  | c :: cs, _, x :: xs, _, h, h' => ⟨h.1, Kept.join h.2 h'⟩
theorem Kept.len {S : Store} {d : D} : ∀ {cs : List (Str × Str)} {ds : List D}, Kept S d cs ds → ds.length = cs.length
  | [], [], _ => rfl
  | [], _ :: _, h => by simp [Kept] at h
  | _ :: _, [], h => by simp [Kept] at h
  | c :: cs, x :: xs, h => by simp [Kept.len h.2]
theorem cs_at : ∀ k, k < 21 → ∃ f, (csV ++ csO)[k]? = some (C_ k, f) := by
  intro k hk
  have : ∀ k, k < 21 → ((csV ++ csO)[k]?.map (·.1)) = some (C_ k) := by decide +kernel
  have h := this k hk
  cases e : (csV ++ csO)[k]? with
  | none => rw [e] at h; cases h
  | some c =>
    rw [e] at h
    have h : c.1 = C_ k := by simpa using h
    exact ⟨c.2, by rw [← h]⟩
/-- the body of the inner loop -/
def inner : Sg := (sSeq (sAsg (e2 (eVar 4) (eVar 5) dIx) (gU 2 (gsCons (gN 6) (gsCons (gN 7) (gsNil))))) (sSeq (sIf (eOr (eB (e2 (eVar 7) (eVar 3) dNe)) (eB (e2 (eCall (aCons (eVar 7) (aCons (eC (.ty "bool")) aNil)) (bIsi isd.tb)) (eCall (aCons (eVar 3) (aCons (eC (.ty "bool")) aNil)) (bIsi isd.tb)) dNe))) (sRet (eC (.bl false))) (sNext)) (sSeq (sIf (eB (e2 (eCall (aCons (eVar 6) aNil) m__law_classes) (eLc (iR1 (eC (.int 21))) (gN 9) (tYesE) (e2 (eVar 9) (eVar 5) dEq) [9]) dNe)) (sRet (eC (.bl false))) (sNext)) (sSeq (sAsg (eIf (eB (e2 (eVar 5) (eC (.int 15)) dLt)) (eC (.int 0)) (eIf (eB (e2 (eVar 5) (eC (.int 19)) dLt)) (eC (.int 1)) (eIf (eB (e2 (eVar 5) (eC (.int 20)) dLt)) (eC (.int 2)) (eC (.int 3))))) (gN 8)) (sIf (eB (e2 (eCall (aCons (eVar 6) aNil) m__law_bases) (eLc (iR1 (eC (.int 4))) (gN 9) (tYesE) (e2 (eVar 9) (eVar 8) dEq) [9]) dNe)) (sRet (eC (.bl false))) (sNext))))))
theorem inner_ok {S : Store} {f k : Nat} {ds : List D} {d : D} {o0 o1 o2 o6 o7 o8 : Option D} (hk : k < 21) (hf : S[f]? = some (.lst ds)) (K : Kept S d (csV ++ csO) ds) (G : Good d S) :
    ∃ T p6 p7 p8, inner [o0, o1, o2, some d, some (.loc f), some (.int (k : Int)), o6, o7, o8, none] S = .ok (.nx [o0, o1, o2, some d, some (.loc f), some (.int (k : Int)), p6, p7, p8, none]) (S ++ T) := by
  obtain ⟨at_, hc⟩ := cs_at k hk
  obtain ⟨a, e, h1, h2, h3⟩ := K.get hc
  have eix : atI ds (k : Int) = some (.loc a) := atI_nat h1
  unfold inner
  -- error, kept = found[k]
  have s1 : sAsg (e2 (eVar 4) (eVar 5) dIx) (gU 2 (gsCons (gN 6) (gsCons (gN 7) (gsNil)))) [o0, o1, o2, some d, some (.loc f), some (.int (k : Int)), o6, o7, o8, none] S = .ok (.nx [o0, o1, o2, some d, some (.loc f), some (.int (k : Int)), some (.loc e), some d, o8, none]) S := by
    simp [sAsg, e2, eVar, dIx, lstAt_of hf, eix, gU, h2, gsCons, gsNil, gN]
  rw [sSeq_ok s1]
  -- the first test
  obtain ⟨G1, b, G2⟩ := G []
  rw [List.append_nil] at G1 G2
  have bb : ∀ T, dNe (.bl b) (.bl b) T = .ok (.bl false) T := fun T => by cases b <;> rfl
  have t1 : eOr (eB (e2 (eVar 7) (eVar 3) dNe)) (eB (e2 (eCall (aCons (eVar 7) (aCons (eC (.ty "bool")) aNil)) (bIsi isd.tb)) (eCall (aCons (eVar 3) (aCons (eC (.ty "bool")) aNil)) (bIsi isd.tb)) dNe)) [o0, o1, o2, some d, some (.loc f), some (.int (k : Int)), some (.loc e), some d, o8, none] S = .ok false S := by
    simp [eOr, eB, e2, eVar, eC, eCall, aCons, aNil, G1, asB, G2, bb]
  rw [sSeq_ok ((sIf_ok t1).trans (if_neg Bool.false_ne_true))]
  -- the second
  obtain ⟨T1, l1, c1, c2⟩ := classes_ok h3 hk
  have lc1 : eLc (iR1 (eC (.int 21))) (gN 9) (tYesE) (e2 (eVar 9) (eVar 5) dEq) [9] [o0, o1, o2, some d, some (.loc f), some (.int (k : Int)), some (.loc e), some d, o8, none] (S ++ T1) = .ok (.loc (S ++ T1).length) (S ++ T1 ++ [.lst ((List.range 21).map fun j => D.bl (decide (j = k)))]) := by
    refine lc_range (v := fun j => D.bl (decide (j = k))) ?_ (by decide) fun j hj T => ?_
    · simp [iR1, eC, asI]
    · have ej : decide ((j : Int) = (k : Int)) = decide (j = k) := decide_eq_decide.mpr (by omega)
      simp only [wipeE, e2, eVar, List.set_cons_zero, List.set_cons_succ, List.getElem?_cons_zero, List.getElem?_cons_succ, Out.bind_ok, dEq_int, ej]
  have t2 : eB (e2 (eCall (aCons (eVar 6) aNil) m__law_classes) (eLc (iR1 (eC (.int 21))) (gN 9) (tYesE) (e2 (eVar 9) (eVar 5) dEq) [9]) dNe) [o0, o1, o2, some d, some (.loc f), some (.int (k : Int)), some (.loc e), some d, o8, none] S = .ok false (S ++ T1 ++ [.lst ((List.range 21).map fun j => D.bl (decide (j = k)))]) := by
    have n1 : dNe (.loc l1) (.loc (S ++ T1).length) (S ++ T1 ++ [.lst ((List.range 21).map fun j => D.bl (decide (j = k)))]) = .ok (.bl false) (S ++ T1 ++ [.lst ((List.range 21).map fun j => D.bl (decide (j = k)))]) := by
      refine ne_bl (bs := (List.range 21).map fun j => decide (j = k)) (get_app (by rw [c2, eqs k hk])) ?_ (same21 k hk)
      rw [get_at0, List.map_map]; rfl
    simp only [eB, e2, eCall, aCons, aNil, eVar, List.getElem?_cons_zero, List.getElem?_cons_succ, Out.bind_ok, c1, lc1, n1, asB]
  rw [sSeq_ok ((sIf_ok t2).trans (if_neg Bool.false_ne_true))]
  generalize hU : T1 ++ [O.lst ((List.range 21).map fun j => D.bl (decide (j = k)))] = U
  rw [List.append_assoc, hU]
  have s3 : sAsg (eIf (eB (e2 (eVar 5) (eC (.int 15)) dLt)) (eC (.int 0)) (eIf (eB (e2 (eVar 5) (eC (.int 19)) dLt)) (eC (.int 1)) (eIf (eB (e2 (eVar 5) (eC (.int 20)) dLt)) (eC (.int 2)) (eC (.int 3))))) (gN 8) [o0, o1, o2, some d, some (.loc f), some (.int (k : Int)), some (.loc e), some d, o8, none] (S ++ U) = .ok (.nx [o0, o1, o2, some d, some (.loc f), some (.int (k : Int)), some (.loc e), some d, some (.int (due k : Int)), none]) (S ++ U) := by
    unfold due
    by_cases k1 : k < 15
    · have k1' : (k : Int) < 15 := by omega
      simp [sAsg, eIf, eB, e2, eVar, eC, dLt, asB, gN, k1, k1']
    · have k1' : ¬ (k : Int) < 15 := by omega
      by_cases k2 : k < 19
      · have k2' : (k : Int) < 19 := by omega
        simp [sAsg, eIf, eB, e2, eVar, eC, dLt, asB, gN, k1, k1', k2, k2']
      · have k2' : ¬ (k : Int) < 19 := by omega
        by_cases k3 : k < 20
        · have k3' : (k : Int) < 20 := by omega
          simp [sAsg, eIf, eB, e2, eVar, eC, dLt, asB, gN, k1, k1', k2, k2', k3, k3']
        · have k3' : ¬ (k : Int) < 20 := by omega
          simp [sAsg, eIf, eB, e2, eVar, eC, dLt, asB, gN, k1, k1', k2, k2', k3, k3']
  rw [sSeq_ok s3]
  obtain ⟨T2, l2, c3, c4⟩ := bases_ok (S := S ++ U) (get_app h3) hk
  have hdue : due k < 4 := by unfold due; (repeat' split) <;> omega
  have lc2 : eLc (iR1 (eC (.int 4))) (gN 9) (tYesE) (e2 (eVar 9) (eVar 8) dEq) [9] [o0, o1, o2, some d, some (.loc f), some (.int (k : Int)), some (.loc e), some d, some (.int (due k : Int)), none] (S ++ U ++ T2) = .ok (.loc (S ++ U ++ T2).length) (S ++ U ++ T2 ++ [.lst ((List.range 4).map fun j => D.bl (decide (j = due k)))]) := by
    refine lc_range (v := fun j => D.bl (decide (j = due k))) ?_ (by decide) fun j hj T => ?_
    · simp [iR1, eC, asI]
    · have ej : decide ((j : Int) = (due k : Int)) = decide (j = due k) := decide_eq_decide.mpr (by omega)
      simp only [wipeE, e2, eVar, List.set_cons_zero, List.set_cons_succ, List.getElem?_cons_zero, List.getElem?_cons_succ, Out.bind_ok, dEq_int, ej]
  have t4 : eB (e2 (eCall (aCons (eVar 6) aNil) m__law_bases) (eLc (iR1 (eC (.int 4))) (gN 9) (tYesE) (e2 (eVar 9) (eVar 8) dEq) [9]) dNe) [o0, o1, o2, some d, some (.loc f), some (.int (k : Int)), some (.loc e), some d, some (.int (due k : Int)), none] (S ++ U) = .ok false (S ++ U ++ T2 ++ [.lst ((List.range 4).map fun j => D.bl (decide (j = due k)))]) := by
    have n1 : dNe (.loc l2) (.loc (S ++ U ++ T2).length) (S ++ U ++ T2 ++ [.lst ((List.range 4).map fun j => D.bl (decide (j = due k)))]) = .ok (.bl false) (S ++ U ++ T2 ++ [.lst ((List.range 4).map fun j => D.bl (decide (j = due k)))]) := by
      refine ne_bl (bs := (List.range 4).map fun j => decide (j = due k)) (get_app c4) ?_ (same4 _ hdue)
      rw [get_at0, List.map_map]; rfl
    simp only [eB, e2, eCall, aCons, aNil, eVar, List.getElem?_cons_zero, List.getElem?_cons_succ, Out.bind_ok, c3, lc2, n1, asB]
  rw [sIf_ok t4, if_neg Bool.false_ne_true]
  exact ⟨U ++ (T2 ++ [.lst ((List.range 4).map fun j => D.bl (decide (j = due k)))]), _, _, _, by unfold sNext; simp only [List.append_assoc]; rfl⟩
end K27

namespace K27
open PySem PySem.Spec PyProof.Rows L2 Ev
theorem good_of {d : D} {S : Store} {p : PyData} {t : TyD} {b : Bool} (h : ∀ T, toPy (S ++ T) d = some p) (hs : SeqAt.shaped p = true) (ht : ∀ T, tyOf (S ++ T) d = some t) (hb : isd.tb t (.ty "bool") = some b) : Good d S := fun T => by
  have e := SeqAt.eqv_refl p (SeqAt.canLay_of_shaped hs)
  refine ⟨by simp [dNe, dEqB, h T, hs, e], b, by simp [bIsi, ht T, clsOf, hb]⟩
def things (r : Int) (p : Nat) : List D := [.int r, .str "work", .non, .bl true, .int (-5), .tup [.str "on", .int 1], .loc p, .str "", .tup []]
theorem good_all {r : Int} {p : Nat} {S : Store} {d : D} (hp : S[p]? = some (.lst [.str "put"])) (h : d ∈ things r p) : Good d S := by
  simp only [things, List.mem_cons, List.not_mem_nil, or_false] at h
  rcases h with rfl | rfl | rfl | rfl | rfl | rfl | rfl | rfl | rfl
  · exact good_of (p := .int r) (t := .ty "int") (b := false) (fun T => rfl) rfl (fun T => rfl) (by decide +kernel)
  · exact good_of (p := .str "work") (t := .ty "str") (b := false) (fun T => rfl) (by decide +kernel) (fun T => rfl) (by decide +kernel)
  · exact good_of (p := .none) (t := .ty "NoneType") (b := false) (fun T => rfl) rfl (fun T => rfl) (by decide +kernel)
  · exact good_of (p := .bool true) (t := .ty "bool") (b := true) (fun T => rfl) rfl (fun T => rfl) (by decide +kernel)
  · exact good_of (p := .int (-5)) (t := .ty "int") (b := false) (fun T => rfl) rfl (fun T => rfl) (by decide +kernel)
  · exact good_of (p := .tuple [.str "on", .int 1]) (t := .ty "tuple") (b := false) (fun T => rfl) (by decide +kernel) (fun T => rfl) (by decide +kernel)
  · refine good_of (p := .list [.str "put"]) (t := .ty "list") (b := false) (fun T => ?_) (by decide +kernel) (fun T => ?_) (by decide +kernel)
    · simp [toPy, pyD, lkS, get_app hp, pyDs]
    · simp [tyOf, get_app hp]
  · exact good_of (p := .str "") (t := .ty "str") (b := false) (fun T => rfl) (by decide +kernel) (fun T => rfl) (by decide +kernel)
  · exact good_of (p := .tuple []) (t := .ty "tuple") (b := false) (fun T => rfl) (by decide +kernel) (fun T => rfl) (by decide +kernel)
def body : Sg := (sSeq (sAsg (eCall (aCons (eVar 0) (aCons (eVar 1) aNil)) m__law_bag) (gN 2)) (sSeq (sAsg (eCall (aCons (eVar 2) (aCons (eLst (aCons (eCall (aCons (eVar 2) (aCons (e2 (eC (.int 10)) (eC (.int 20)) dPow) aNil)) m__law_take) (aCons (eC (.str "work")) (aCons (eC .non) (aCons (eC (.bl true)) (aCons (eNeg (eC (.int 5))) (aCons (eTup (aCons (eC (.str "on")) (aCons (eC (.int 1)) aNil))) (aCons (eLst (aCons (eC (.str "put")) aNil)) (aCons (eC (.str "")) (aCons (eTup (aNil)) aNil)))))))))) aNil)) m__law_of) (gN 3)) (sSeq (sAsg (e2 (eCall (aCons (eVar 3) aNil) m__law_values) (eCall (aCons (eVar 3) aNil) m__law_others) dAdd) (gN 4)) (sFor (iR1 (eC (.int 21))) (gN 5) inner))))
theorem body_ok {S : Store} {ns : List Int} {k : Nat} {o2 o3 o4 o5 o6 o7 o8 : Option D} (h : S[0]? = some (.ro (ns.map D.int))) :
    ∃ S' p2 p3 p4 p5 p6 p7 p8, body [some (.loc 0), some (.int (k : Int)), o2, o3, o4, o5, o6, o7, o8, none] S = .ok (.nx [some (.loc 0), some (.int (k : Int)), p2, p3, p4, p5, p6, p7, p8, none]) S' ∧ S'[0]? = some (.ro (ns.map D.int)) := by
  obtain ⟨T, b, h1, h2, hb0⟩ := bag_ok (k := k) h
  have h0 : (S ++ T)[0]? = some (.ro (ns.map D.int)) := get_app h
  unfold body
  have s1 : sAsg (eCall (aCons (eVar 0) (aCons (eVar 1) aNil)) m__law_bag) (gN 2) [some (.loc 0), some (.int (k : Int)), o2, o3, o4, o5, o6, o7, o8, none] S = .ok (.nx [some (.loc 0), some (.int (k : Int)), some (.loc b), o3, o4, o5, o6, o7, o8, none]) (S ++ T) := by
    simp only [sAsg, eCall, aCons, aNil, eVar, List.getElem?_cons_zero, List.getElem?_cons_succ, Out.bind_ok, h1, gN, List.set_cons_zero, List.set_cons_succ]
  rw [sSeq_ok s1]
  generalize S ++ T = S1 at h0 h2
  clear s1 h1 h T S
  have hbl : b < S1.length := by
    obtain ⟨_, _, e⟩ := h2
    exact (List.getElem?_eq_some_iff.mp e).1
  obtain ⟨r, x, y, t1, _, _⟩ := take_ok (n := 100000000000000000000) h2 (by decide) (by decide +kernel)
  generalize hS2 : S1.set b (O.lst [.int x, .int y]) = S2 at t1
  have l2 : S2.length = S1.length := by rw [← hS2, List.length_set]
  have h02 : S2[0]? = some (.ro (ns.map D.int)) := by rw [← hS2, set_get_ne hb0]; exact h0
  have hbag2 : S2[b]? = some (.lst [.int x, .int y]) := by rw [← hS2, List.getElem?_set_self hbl]
  -- the thing
  obtain ⟨d, x', y', f1, f2⟩ := of_ok (S := S2 ++ [.lst [.str "put"], .lst (things r S2.length)]) (b := b) (l := S2.length + 1) (ds := things r S2.length) ⟨x, y, get_app hbag2⟩ (by rw [get_at]; rfl) (by simp [things]) (by simp [things]) (by omega)
  have e2' : eCall (aCons (eVar 2) (aCons (eLst (aCons (eCall (aCons (eVar 2) (aCons (e2 (eC (.int 10)) (eC (.int 20)) dPow) aNil)) m__law_take) (aCons (eC (.str "work")) (aCons (eC .non) (aCons (eC (.bl true)) (aCons (eNeg (eC (.int 5))) (aCons (eTup (aCons (eC (.str "on")) (aCons (eC (.int 1)) aNil))) (aCons (eLst (aCons (eC (.str "put")) aNil)) (aCons (eC (.str "")) (aCons (eTup (aNil)) aNil)))))))))) aNil)) m__law_of [some (.loc 0), some (.int (k : Int)), some (.loc b), o3, o4, o5, o6, o7, o8, none] S1 = m__law_of [.loc b, .loc (S2.length + 1)] (S2 ++ [.lst [.str "put"], .lst (things r S2.length)]) := by
    have p20 : dPow (.int 10) (.int 20) S1 = .ok (.int 100000000000000000000) S1 := by simp [dPow]
    have z2 : 2 ≤ sizeLine := by decide
    simp [eCall, aCons, aNil, eVar, eC, e2, p20, t1, eNeg, eTup, eLst, newL_ok, z2, things]
  have s2 := sAsg_ok (i := 3) (e2'.trans f1)
  rw [sSeq_ok s2]
  simp only [List.set_cons_zero, List.set_cons_succ]
  generalize hS3 : (S2 ++ [O.lst [.str "put"], O.lst (things r S2.length)]).set b (O.lst [.int x', .int y']) = S3
  have hput : S3[S2.length]? = some (.lst [.str "put"]) := by rw [← hS3, set_get_ne (by omega), get_at0]; rfl
  have h03 : S3[0]? = some (.ro (ns.map D.int)) := by rw [← hS3, set_get_ne hb0]; exact get_app h02
  have G := good_all hput f2
  -- found
  obtain ⟨T1, l1, ds1, v1, v2, v3⟩ := values_ok d S3
  obtain ⟨T2, l2', ds2, w1, w2, w3⟩ := others_ok d (S3 ++ T1)
  have K := (v3.app (T := T2)).join w3
  have len : (ds1 ++ ds2).length ≤ 1000 := by rw [K.len]; decide
  have s3 : sAsg (e2 (eCall (aCons (eVar 3) aNil) m__law_values) (eCall (aCons (eVar 3) aNil) m__law_others) dAdd) (gN 4) [some (.loc 0), some (.int (k : Int)), some (.loc b), some d, o4, o5, o6, o7, o8, none] S3 = .ok (.nx [some (.loc 0), some (.int (k : Int)), some (.loc b), some d, some (.loc (S3 ++ T1 ++ T2).length), o5, o6, o7, o8, none]) (S3 ++ T1 ++ T2 ++ [.lst (ds1 ++ ds2)]) := by
    have a1 := get_app (T := T2) v2
    simp only [sAsg, e2, eCall, aCons, aNil, eVar, List.getElem?_cons_zero, List.getElem?_cons_succ, Out.bind_ok, v1, w1, dAdd, a1, w2, newL_ok len, gN, List.set_cons_zero, List.set_cons_succ]
  rw [sSeq_ok s3]
  have hf : (S3 ++ T1 ++ T2 ++ [O.lst (ds1 ++ ds2)])[(S3 ++ T1 ++ T2).length]? = some (.lst (ds1 ++ ds2)) := by rw [get_at0]; rfl
  have K := K.app (T := [O.lst (ds1 ++ ds2)])
  have G : Good d (S3 ++ T1 ++ T2 ++ [O.lst (ds1 ++ ds2)]) := ((G.app T1).app T2).app _
  have h04 : (S3 ++ T1 ++ T2 ++ [O.lst (ds1 ++ ds2)])[0]? = some (.ro (ns.map D.int)) := get_app (get_app (get_app h03))
  generalize (S3 ++ T1 ++ T2).length = f at hf
  generalize S3 ++ T1 ++ T2 ++ [O.lst (ds1 ++ ds2)] = S4 at hf K G h04
  obtain ⟨e', S', g1, T, p5, p6, p7, p8, rfl, rfl⟩ := sfor_inv (n := 21) (src := srcOf (intsD 0 21)) (d := fun j => .int (0 + (j : Int))) (it := iR1 (eC (.int 21))) (t := gN 5) (g := inner) (e := [some (.loc 0), some (.int (k : Int)), some (.loc b), some d, some (.loc f), o5, o6, o7, o8, none]) (S := S4) (S1 := S4)
    (fun (_ : Nat) e S' => ∃ T p5 p6 p7 p8, e = [some (.loc 0), some (.int (k : Int)), some (.loc b), some d, some (.loc f), p5, p6, p7, p8, none] ∧ S' = S4 ++ T)
    (by simp [iR1, eC, asI]) (by simp [srcOf, intsD]) (fun j e S' _ => src_ints)
    (fun j e S' hj ⟨T, p5, p6, p7, p8, he, hS⟩ => by
      subst he hS
      obtain ⟨T', q6, q7, q8, z⟩ := inner_ok (o0 := some (.loc 0)) (o1 := some (.int (k : Int))) (o2 := some (.loc b)) (o6 := p6) (o7 := p7) (o8 := p8) hj (get_app (T := T) hf) (K.app (T := T)) (G.app T)
      refine ⟨[some (.loc 0), some (.int (k : Int)), some (.loc b), some d, some (.loc f), some (.int (j : Int)), p6, p7, p8, none], _, _, _, ?_, z, T ++ T', _, _, _, _, rfl, by rw [List.append_assoc]⟩
      simp only [gN, List.set_cons_zero, List.set_cons_succ, Int.zero_add])
    ⟨[], _, _, _, _, rfl, by simp⟩
  exact ⟨_, _, _, _, _, _, _, _, g1, get_app h04⟩
theorem pure : ∀ ns : List Int, ns.length ≤ 63 → ∃ S', fnS 10 s_law [.loc 0] [.ro (ns.map D.int)] = .ok (.bl true) S' := by
  intro ns _
  have hmax : ∃ n, n ≤ 4 ∧ iR1 (eCall (aCons (eC (.int 1)) (aCons (eCall (aCons (eC (.int 4)) (aCons (eCall (aCons (eVar 0) aNil) bLen) aNil)) bMin) aNil)) bMax) (startE 10 [.loc 0]) [.ro (ns.map D.int)] = .ok (srcOf (intsD 0 n)) [.ro (ns.map D.int)] := by
    have hm : ∃ m : Int, 1 ≤ m ∧ m ≤ 4 ∧ eCall (aCons (eC (.int 1)) (aCons (eCall (aCons (eC (.int 4)) (aCons (eCall (aCons (eVar 0) aNil) bLen) aNil)) bMin) aNil)) bMax (startE 10 [.loc 0]) [.ro (ns.map D.int)] = .ok (.int m) [.ro (ns.map D.int)] := by
      refine ⟨if (if (ns.length : Int) < 4 then (ns.length : Int) else 4) > 1 then (if (ns.length : Int) < 4 then (ns.length : Int) else 4) else 1, by split <;> omega, by split <;> (try split) <;> omega, ?_⟩
      simp [eCall, aCons, aNil, eC, eVar, startE, bLen, lstAt, bMin, bMax]
    obtain ⟨m, m1, m2, e⟩ := hm
    refine ⟨m.toNat, by omega, ?_⟩
    unfold iR1
    rw [e, Out.bind_ok]
    simp only [asI, Out.bind_ok]
    rw [if_pos (by omega)]
  obtain ⟨n, hn, hit⟩ := hmax
  obtain ⟨e', S', g1, _⟩ := sfor_inv (n := n) (src := srcOf (intsD 0 n)) (d := fun j => .int (0 + (j : Int))) (t := gN 1) (g := body)
    (fun (_ : Nat) e S' => ∃ o1 o2 o3 o4 o5 o6 o7 o8, e = [some (.loc 0), o1, o2, o3, o4, o5, o6, o7, o8, none] ∧ S'[0]? = some (.ro (ns.map D.int)))
    hit (by simp [srcOf, intsD]) (fun j e S' _ => src_ints)
    (fun j e S' hj ⟨o1, o2, o3, o4, o5, o6, o7, o8, he, hS⟩ => by
      subst he
      obtain ⟨S'', p2, p3, p4, p5, p6, p7, p8, z1, z2⟩ := body_ok (k := j) (o2 := o2) (o3 := o3) (o4 := o4) (o5 := o5) (o6 := o6) (o7 := o7) (o8 := o8) hS
      refine ⟨[some (.loc 0), some (.int (j : Int)), o2, o3, o4, o5, o6, o7, o8, none], _, _, _, ?_, z1, _, _, _, _, _, _, _, _, rfl, z2⟩
      simp only [gN, List.set_cons_zero, List.set_cons_succ, Int.zero_add])
    ⟨_, _, _, _, _, _, _, _, rfl, rfl⟩
  refine ⟨S', ?_⟩
  unfold fnS
  have e : s_law = sSeq (sFor (iR1 (eCall (aCons (eC (.int 1)) (aCons (eCall (aCons (eC (.int 4)) (aCons (eCall (aCons (eVar 0) aNil) bLen) aNil)) bMin) aNil)) bMax)) (gN 1) body) (sRet (eC (.bl true))) := rfl
  rw [e, sSeq_ok g1]
  rfl
end K27

open PySem PySem.W PySem.Calls PyProof.Rows
theorem PySem.Challenge.cw_selfchains_k27_errors_by_hand_holds : PySem.Challenge.rw_selfchains_k27_errors_by_hand.Holds := by
  w_on; o_law
  refine HandSHeadRun.head_any (r := OpenLaw.row PySem.Challenge.rw_selfchains_k27_errors_by_hand) (q := view (OpenLaw.row PySem.Challenge.rw_selfchains_k27_errors_by_hand).prog [30]) (H := K27.hk) (ob := K27.ob) (M := 12000) (loose := K27.loose) (d := HandSHeadRun.topDef (OpenLaw.row PySem.Challenge.rw_selfchains_k27_errors_by_hand).prog 30) (kwd := []) K27.ob_eq
    (by kernel_rfl) (fun s => by kernel_rfl) K27.run (by kernel_rfl) (by kernel_rfl) (by kernel_rfl) (by rfl) (by first | assumption | decide +kernel) (by decide +kernel) ⟨rfl, rfl, rfl, rfl, rfl, by decide +kernel⟩ ?hw ?hc
  case hw => w_witness2
  case hc =>
    refine L2.walk_ofE (l := PySem.Challenge.rw_selfchains_k27_errors_by_hand) (n := 63) (k := 4) (x := "_law_script") (CX := L2.CX0) rfl (by decide) (by kernel_rfl) ⟨rfl, by decide, by decide⟩ ?F (fun _ _ _ _ z => z)
    intro w mg fa h Y G hmg0
    have hmg : mg ("law" : PySem.Str) = some (.ref fa) := by
      have e : (HandSHeadRun.topDef (OpenLaw.row PySem.Challenge.rw_selfchains_k27_errors_by_hand).prog 30).name = ("law" : PySem.Str) := by kernel_rfl
      rw [← e]
      exact hmg0
    exact K27.walk K27.pure Y G hmg

