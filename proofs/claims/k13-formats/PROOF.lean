import PyProof.Rows.All
import Wide.All
import OpenK.AllK
import Wide.FinOn
import HandS.ForMost
import HandS.ForExc
import HandS.Deep
import HandS.TupAny
import HandS.TupMul
import HandS.IsInst
import HandS.ExcCtx
import HandS.HotCalls
import HandS.ExcIs
import HandS.CallSlots
import HandS.Small
import HandS.Wide
import HandS.Style
import PyProof.StrBlock2
import HandS.Defaults
import HandS.TupSets
import HandS.Strs
import HandS.HeadHook4
import HandS.Head0
import HandS.Head1
import HandS.Head2
import HandS.HeadEnd
import HandS.HeadHook1
import HandS.HeadHook2
import HandS.HeadHook3
import PySem.Challenge.RW_striptilings_k13_whole_formats
set_option Elab.async false
set_option linter.all false
set_option maxRecDepth 100000
set_option maxHeartbeats 4000000
namespace Pf
open PySem L2

abbrev D := PyData

/-! ### heaps -/
def Ex (H H' : Hp) : Prop := ∀ a o, H a = some o → H' a = some o
theorem Ex.refl (H : Hp) : Ex H H := fun _ _ h => h
theorem Ex.trans {H H1 H2 : Hp} (a : Ex H H1) (b : Ex H1 H2) : Ex H H2 := fun x o h => b x o (a x o h)
theorem Ex.new {H : Hp} {p : Addr} {o : HO} (h : H p = none) : Ex H (upd H p o) := fun a u e => by
  rw [upd_ne (ne_of_none e h)]
  exact e
theorem Ex.back {H H' : Hp} {p : Addr} (e : Ex H H') (h : H' p = none) : H p = none := by
  cases q : H p with
  | none => rfl
  | some o => rw [e p o q] at h; cases h
theorem Ex.fwd {H H' : Hp} {p : Addr} (e : Ex H H') (h : H p ≠ none) : H' p ≠ none := fun z => h (e.back z)
theorem Ex.upd2 {F H : Hp} {p : Addr} {o : HO} (e : Ex F H) : Ex (upd F p o) (upd H p o) := fun a u h => by
  by_cases q : a = p
  · subst q; rw [upd_same] at h ⊢; exact h
  · rw [upd_ne q] at h ⊢; exact e a u h
theorem ex_rd {H H' : Hp} {a : Addr} {u : HO} (e : Ex H H') (h : Rd H a u) : Rd H' a u := by
  rcases h with h | ⟨o, h⟩
  · exact Or.inl (e a _ h)
  · exact Or.inr ⟨o, e a _ h⟩
theorem ex_l {K : PySem.W.Frag} {H H' : Hp} {a : Addr} {xs : List V} (e : Ex H H') (h : SqL K H a xs) : SqL K H' a xs := by
  rcases h with h | h
  · exact Or.inl (ex_rd e h)
  · exact Or.inr h
theorem ex_t {K : PySem.W.Frag} {H H' : Hp} {a : Addr} {xs : List V} (e : Ex H H') (h : SqT K H a xs) : SqT K H' a xs := by
  rcases h with h | h
  · exact Or.inl (ex_rd e h)
  · exact Or.inr h

/-- growth without a store: new objects alone -/
structure Gw (F H F' H' : Hp) : Prop where
  f : Ex F F'
  h : Ex H H'
  fh : Ex F' H'
  nw : ∀ p, F' p ≠ none → H p ≠ none → F p ≠ none
theorem Gw.refl {F H : Hp} (e : Ex F H) : Gw F H F H := ⟨Ex.refl F, Ex.refl H, e, fun _ h _ => h⟩
theorem Gw.trans {F H F1 H1 F2 H2 : Hp} (a : Gw F H F1 H1) (b : Gw F1 H1 F2 H2) : Gw F H F2 H2 :=
  ⟨a.f.trans b.f, a.h.trans b.h, b.fh, fun p h1 h2 => a.nw p (b.nw p h1 (a.h.fwd h2)) h2⟩
theorem Gw.new {F H : Hp} {p : Addr} {o : HO} (e : Ex F H) (h : H p = none) : Gw F H (upd F p o) (upd H p o) :=
  ⟨Ex.new (e.back h), Ex.new h, e.upd2, fun q h1 h2 => by
    have : q ≠ p := fun z => h2 (z ▸ h)
    rw [upd_ne this] at h1; exact h1⟩

/-! ### hashes -/
mutual
def hashD (w : World) : PyData → Int
  | .none => 0xFCA86420
  | .bool b => hashInt (if b then 1 else 0)
  | .int i => hashInt i
  | .str x => hashStr w x
  | .tuple ds => reduceHash (Builtin.Tuple.tupleHashOf (hashAll w ds))
  | .list _ => 0
  | .dict _ => 0
def hashAll (w : World) : List PyData → List Int
  | [] => []
  | d :: ds => hashD w d :: hashAll w ds
end

/-! ### dict objects -/
def EntR (e : DictEntry) (p : Int × V × V) : Prop := e.hash = p.1 ∧ RelV p.2.1 e.key ∧ RelV p.2.2 e.val
def dicO (a : Addr) (es : List (Int × V × V)) : HO := .ext fun h => (a == sysModules) = false ∧ es.length ≤ sizeLine ∧ ∃ o ents ep, h.get? a = some o ∧ o.ExactDict ∧ o.data = .dict ents ep ∧ Paired EntR ents.toList es

/-! ### data that a value stands for -/
mutual
inductive Rp (w : World) (K : PySem.W.Frag) (F : Hp) : V → PyData → Prop
  | non : Rp w K F .non .none
  | bl (b : Bool) : Rp w K F (.bl b) (.bool b)
  | int (i : Int) : Rp w K F (.int i) (.int i)
  | str (x : Str) : Rp w K F (.str x) (.str x)
  | lst {a : Addr} {xs : List V} {ds : List PyData} : F a = some (.lst xs) → RpAll w K F xs ds → Rp w K F (.ref a) (.list ds)
  | tup {a : Addr} {xs : List V} {ds : List PyData} : SqT K F a xs → RpAll w K F xs ds → Rp w K F (.ref a) (.tuple ds)
  | dic {a : Addr} {es : List (Int × V × V)} {kvs : List (PyData × PyData)} : Rd F a (dicO a es) → RpKV w K F es kvs → Rp w K F (.ref a) (.dict kvs)
inductive RpAll (w : World) (K : PySem.W.Frag) (F : Hp) : List V → List PyData → Prop
  | nil : RpAll w K F [] []
  | cons {v : V} {vs : List V} {d : PyData} {ds : List PyData} : Rp w K F v d → RpAll w K F vs ds → RpAll w K F (v :: vs) (d :: ds)
inductive RpKV (w : World) (K : PySem.W.Frag) (F : Hp) : List (Int × V × V) → List (PyData × PyData) → Prop
  | nil : RpKV w K F [] []
  | cons {h : Int} {k v : V} {es : List (Int × V × V)} {kd vd : PyData} {kvs : List (PyData × PyData)} : h = hashD w kd → Rp w K F k kd → Rp w K F v vd → RpKV w K F es kvs → RpKV w K F ((h, k, v) :: es) ((kd, vd) :: kvs)
end
section
variable {w : World} {K : PySem.W.Frag} {F F' : Hp}
mutual
theorem Rp.mono (e : Ex F F') : ∀ {v : V} {d : PyData}, Rp w K F v d → Rp w K F' v d
  | _, _, .non => .non
  | _, _, .bl b => .bl b
  | _, _, .int i => .int i
  | _, _, .str x => .str x
  | _, _, .lst h a => .lst (e _ _ h) (RpAll.mono e a)
  | _, _, .tup h a => .tup (ex_t e h) (RpAll.mono e a)
  | _, _, .dic h a => .dic (ex_rd e h) (RpKV.mono e a)
theorem RpAll.mono (e : Ex F F') : ∀ {v : List V} {d : List PyData}, RpAll w K F v d → RpAll w K F' v d
  | _, _, .nil => .nil
  | _, _, .cons h t => .cons (Rp.mono e h) (RpAll.mono e t)
theorem RpKV.mono (e : Ex F F') : ∀ {v : List (Int × V × V)} {d : List (PyData × PyData)}, RpKV w K F v d → RpKV w K F' v d
  | _, _, .nil => .nil
  | _, _, .cons z h g t => .cons z (Rp.mono e h) (Rp.mono e g) (RpKV.mono e t)
end
theorem RpAll.length : ∀ {v : List V} {d : List PyData}, RpAll w K F v d → v.length = d.length
  | _, _, .nil => rfl
  | _, _, .cons _ t => by simp [RpAll.length t]
theorem RpAll.get : ∀ {v : List V} {d : List PyData} {i : Nat} {x : PyData}, RpAll w K F v d → d[i]? = some x → ∃ u, v[i]? = some u ∧ Rp w K F u x
  | _, _, _, _, .nil, e => by simp at e
  | _, _, 0, _, .cons h _, e => by simp at e; subst e; exact ⟨_, rfl, h⟩
  | _, _, i + 1, x, .cons _ t, e => by
    obtain ⟨u, h1, h2⟩ := RpAll.get (i := i) (x := x) t (by simpa using e)
    exact ⟨u, by simpa using h1, h2⟩
theorem RpAll.getV : ∀ {v : List V} {d : List PyData} {i : Nat} {u : V}, RpAll w K F v d → v[i]? = some u → ∃ x, d[i]? = some x ∧ Rp w K F u x
  | _, _, _, _, .nil, e => by simp at e
  | _, _, 0, _, .cons h _, e => by simp at e; subst e; exact ⟨_, rfl, h⟩
  | _, _, i + 1, x, .cons _ t, e => by
    obtain ⟨u, h1, h2⟩ := RpAll.getV (i := i) (u := x) t (by simpa using e)
    exact ⟨u, by simpa using h1, h2⟩
theorem RpAll.append : ∀ {v v' : List V} {d d' : List PyData}, RpAll w K F v d → RpAll w K F v' d' → RpAll w K F (v ++ v') (d ++ d')
  | _, _, _, _, .nil, h => h
  | _, _, _, _, .cons a t, h => .cons a (RpAll.append t h)
theorem RpAll.drop : ∀ (n : Nat) {v : List V} {d : List PyData}, RpAll w K F v d → RpAll w K F (v.drop n) (d.drop n)
  | 0, _, _, h => h
  | n + 1, _, _, .nil => .nil
  | n + 1, _, _, .cons _ t => RpAll.drop n t
theorem RpAll.take : ∀ (n : Nat) {v : List V} {d : List PyData}, RpAll w K F v d → RpAll w K F (v.take n) (d.take n)
  | 0, _, _, _ => .nil
  | n + 1, _, _, .nil => .nil
  | n + 1, _, _, .cons a t => .cons a (RpAll.take n t)
theorem RpAll.set {x : V} {y : PyData} (r : Rp w K F x y) : ∀ (i : Nat) {v : List V} {d : List PyData}, RpAll w K F v d → RpAll w K F (v.set i x) (d.set i y)
  | _, _, _, .nil => .nil
  | 0, _, _, .cons _ t => .cons r t
  | i + 1, _, _, .cons a t => .cons a (RpAll.set r i t)
theorem RpAll.reverse {v : List V} {d : List PyData} (h : RpAll w K F v d) : RpAll w K F v.reverse d.reverse := by
  induction v generalizing d with
  | nil => cases h; exact .nil
  | cons a v ih =>
    cases h with
    | cons h t =>
      rw [List.reverse_cons, List.reverse_cons]
      exact (ih t).append (.cons h .nil)
mutual
theorem Rp.dp : ∀ {v : V} {d : PyData}, Rp w K F v d → d.canLay0 = true → Dp K F v d
  | _, _, .non, _ => .non
  | _, _, .bl b, _ => .bl b
  | _, _, .int i, _ => .int i
  | _, _, .str x, _ => .str x
  | _, _, .lst h a, q => .lst (SqL.of h) (RpAll.dp a (by simpa only [PyData.canLay0] using q))
  | _, _, .tup h a, q => .tup h (RpAll.dp a (by simpa only [PyData.canLay0] using q))
  | _, _, .dic _ _, q => by simp [PyData.canLay0] at q
theorem RpAll.dp : ∀ {v : List V} {d : List PyData}, RpAll w K F v d → PyData.canLayAll0 d = true → DpAll K F v d
  | _, _, .nil, _ => .nil
  | _, _, .cons h t, q => by
    simp only [PyData.canLayAll0, Bool.and_eq_true] at q
    exact .cons (Rp.dp h q.1) (RpAll.dp t q.2)
end
mutual
theorem dp_mono (e : Ex F F') : ∀ {v : V} {d : PyData}, Dp K F v d → Dp K F' v d
  | _, _, .non => .non
  | _, _, .bl b => .bl b
  | _, _, .int i => .int i
  | _, _, .str x => .str x
  | _, _, .lst h a => .lst (ex_l e h) (dpAll_mono e a)
  | _, _, .tup h a => .tup (ex_t e h) (dpAll_mono e a)
theorem dpAll_mono (e : Ex F F') : ∀ {v : List V} {d : List PyData}, DpAll K F v d → DpAll K F' v d
  | _, _, .nil => .nil
  | _, _, .cons h t => .cons (dp_mono e h) (dpAll_mono e t)
end
end

/-! ### slots -/
/-- what one slot owns -/
inductive Ow where
  | lst (l : List D)
  | dic (kvs : List (D × D))
  | dicL (kvs : List (D × List D))
  | lstL (ls : List (List D))
  | ins (C : Addr) (fs : List (Str × D))
inductive Sl where
  | un | im (d : D) | rw (v : V) | ow (q : Option Addr) (o : Ow) | fl (l : List Int)
abbrev S := List Sl

section
variable (w : World) (K : PySem.W.Frag)
/-- lists that are owned, one at each address -/
def OwL (F H : Hp) : List V → List (List D) → List Addr → Prop
  | [], [], [] => True
  | v :: vs, l :: ls, q :: qs => v = .ref q ∧ (∃ xs, H q = some (.lst xs) ∧ RpAll w K F xs l) ∧ q ∉ qs ∧ OwL F H vs ls qs
  | _, _, _ => False
/-- keys (frozen) with their hashes -/
def KeyR (F : Hp) : List (Int × V × V) → List D → Prop
  | [], [] => True
  | e :: es, k :: ks => e.1 = hashD w k ∧ Rp w K F e.2.1 k ∧ KeyR F es ks
  | _, _ => False
def OwR (F H : Hp) (p : Addr) : Ow → List Addr → Prop
  | .lst l, fp => fp = [p] ∧ ∃ xs, H p = some (.lst xs) ∧ RpAll w K F xs l
  | .dic kvs, fp => fp = [p] ∧ ∃ es, H p = some (dicO p es) ∧ RpKV w K F es kvs
  | .dicL kvs, fp => ∃ es qs, fp = p :: qs ∧ p ∉ qs ∧ Rd H p (dicO p es) ∧ KeyR w K F es (kvs.map (·.1)) ∧ OwL w K F H (es.map (·.2.2)) (kvs.map (·.2)) qs
  | .lstL ls, fp => ∃ xs qs, fp = p :: qs ∧ p ∉ qs ∧ H p = some (.lst xs) ∧ OwL w K F H xs ls qs
  | .ins C fs, fp => ∃ dx vs, fp = [p, dx] ∧ H p = some (.ins C dx ((fs.map (·.1)).zip vs)) ∧ H dx = some (.own p) ∧ RpAll w K F vs (fs.map (·.2))
def SlR (F H : Hp) : Sl → Option V → List Addr → Prop
  | .un, _, _ => True
  | .im d, v, _ => ∃ x, v = some x ∧ Rp w K F x d
  | .rw y, v, _ => v = some y
  | .fl l, v, _ => ∃ a, v = some (.ref a) ∧ SqL K F a (l.map V.int)
  | .ow q o, v, fp => ∃ p, v = some (.ref p) ∧ (∀ p', q = some p' → p = p') ∧ OwR w K F H p o fp
structure StR (Z F0 : Hp) (δ : S) (σ : St) (F H : Hp) : Prop where
  ef : Ex F H
  e0 : Ex F0 F
  ez : Ex Z H
  fz : ∀ p, F p ≠ none → Z p ≠ none → F0 p ≠ none
  len : δ.length = σ.length
  sl : ∃ fp : Nat → List Addr, (∀ i s, δ[i]? = some s → SlR w K F H s (σ[i]?.join) (fp i)) ∧ (∀ i p, p ∈ fp i → F p = none ∧ Z p = none ∧ H p ≠ none) ∧ ∀ i j p, p ∈ fp i → p ∈ fp j → i = j
end
section
variable {w : World} {K : PySem.W.Frag} {F F' H H' Z F0 : Hp}
theorem OwL.mono (e : Ex F F') : ∀ {vs : List V} {ls : List (List D)} {qs : List Addr}, OwL w K F H vs ls qs → (∀ q ∈ qs, H' q = H q) → OwL w K F' H' vs ls qs
  | [], [], [], _, _ => trivial
  | v :: vs, l :: ls, q :: qs, ⟨h1, ⟨xs, h2, h3⟩, h4, h5⟩, k => ⟨h1, ⟨xs, by rw [k q List.mem_cons_self]; exact h2, h3.mono e⟩, h4, OwL.mono e h5 fun r hr => k r (List.mem_cons_of_mem _ hr)⟩
theorem KeyR.mono (e : Ex F F') : ∀ {es : List (Int × V × V)} {ks : List D}, KeyR w K F es ks → KeyR w K F' es ks
  | [], [], _ => trivial
  | _ :: _, _ :: _, ⟨h1, h2, h3⟩ => ⟨h1, h2.mono e, KeyR.mono e h3⟩
theorem OwR.mono (e : Ex F F') {p : Addr} : ∀ {o : Ow} {fp : List Addr}, OwR w K F H p o fp → (∀ q ∈ fp, H' q = H q) → OwR w K F' H' p o fp
  | .lst l, _, ⟨h1, xs, h2, h3⟩, k => ⟨h1, xs, by rw [k p (by rw [h1]; exact List.mem_cons_self)]; exact h2, h3.mono e⟩
  | .dic l, _, ⟨h1, xs, h2, h3⟩, k => ⟨h1, xs, by rw [k p (by rw [h1]; exact List.mem_cons_self)]; exact h2, h3.mono e⟩
  | .dicL l, _, ⟨es, qs, h1, h2, h3, h4, h5⟩, k => by
    refine ⟨es, qs, h1, h2, ?_, h4.mono e, h5.mono e fun q hq => k q (by rw [h1]; exact List.mem_cons_of_mem _ hq)⟩
    have kp := k p (by rw [h1]; exact List.mem_cons_self)
    rcases h3 with h3 | ⟨o, h3⟩
    · exact .inl (kp.trans h3)
    · exact .inr ⟨o, kp.trans h3⟩
  | .lstL l, _, ⟨xs, qs, h1, h2, h3, h5⟩, k => ⟨xs, qs, h1, h2, by rw [k p (by rw [h1]; exact List.mem_cons_self)]; exact h3, h5.mono e fun q hq => k q (by rw [h1]; exact List.mem_cons_of_mem _ hq)⟩
  | .ins C fs, _, ⟨dx, vs, h1, h2, h3, h4⟩, k => ⟨dx, vs, h1, by rw [k p (by rw [h1]; exact List.mem_cons_self)]; exact h2, by rw [k dx (by rw [h1]; simp)]; exact h3, h4.mono e⟩
theorem SlR.mono (e : Ex F F') {s : Sl} {v : Option V} {fp : List Addr} (h : SlR w K F H s v fp) (k : ∀ q ∈ fp, H' q = H q) : SlR w K F' H' s v fp := by
  cases s with
  | un => trivial
  | im d => obtain ⟨x, h1, h2⟩ := h; exact ⟨x, h1, h2.mono e⟩
  | rw y => exact h
  | fl l => obtain ⟨a, h1, h2⟩ := h; exact ⟨a, h1, ex_l e h2⟩
  | ow q' o => obtain ⟨p, h1, h0, h2⟩ := h; exact ⟨p, h1, h0, h2.mono e k⟩
theorem StR.grow {δ : S} {σ : St} (h : StR w K Z F0 δ σ F H) (g : Gw F H F' H') : StR w K Z F0 δ σ F' H' := by
  obtain ⟨fp, h1, h2, h3⟩ := h.sl
  refine ⟨g.fh, h.e0.trans g.f, h.ez.trans g.h, fun p q1 q2 => h.fz p (g.nw p q1 (h.ez.fwd q2)) q2, h.len, fp, fun i s e => (h1 i s e).mono g.f fun q hq => ?_, fun i p hp => ?_, h3⟩
  · obtain ⟨_, _, z⟩ := h2 i q hq
    cases e : H q with
    | none => exact absurd e z
    | some o => exact g.h q o e
  · obtain ⟨a, b, c⟩ := h2 i p hp
    refine ⟨?_, b, g.h.fwd c⟩
    cases e : F' p with
    | none => rfl
    | some o => exact absurd a (g.nw p (by rw [e]; simp) c)
end

/-! ### the monad of readings -/
abbrev M (α : Type) := S → Option (α × S)
def ret {α : Type} (a : α) : M α := fun δ => some (a, δ)
def bnd {α β : Type} (m : M α) (k : α → M β) : M β := fun δ => match m δ with
  | some (a, δ') => k a δ'
  | none => none
def lft {α : Type} (o : Option α) : M α := fun δ => match o with
  | some a => some (a, δ)
  | none => none
def pur {α : Type} (f : S → Option α) : M α := fun δ => match f δ with
  | some a => some (a, δ)
  | none => none
theorem bnd_some {α β : Type} {m : M α} {k : α → M β} {δ : S} {r : β × S} (h : bnd m k δ = some r) : ∃ a δ', m δ = some (a, δ') ∧ k a δ' = some r := by
  unfold bnd at h
  split at h
  · rename_i a δ' e; exact ⟨a, δ', e, h⟩
  · cases h
theorem lft_some {α : Type} {o : Option α} {δ : S} {a : α} {δ' : S} (h : lft o δ = some (a, δ')) : o = some a ∧ δ' = δ := by
  unfold lft at h
  split at h
  · cases h; exact ⟨rfl, rfl⟩
  · cases h
theorem pur_some {α : Type} {f : S → Option α} {δ : S} {a : α} {δ' : S} (h : pur f δ = some (a, δ')) : f δ = some a ∧ δ' = δ := by
  unfold pur at h
  split at h
  · rename_i e; cases h; exact ⟨e, rfl⟩
  · cases h
theorem pur_of {α : Type} {f : S → Option α} {δ : S} {a : α} (h : f δ = some a) : pur f δ = some (a, δ) := by
  unfold pur; rw [h]
theorem bnd_pur {α β : Type} (f : S → Option α) (g : α → S → Option β) : bnd (pur f) (fun a => pur (g a)) = pur (fun δ => (f δ).bind fun a => g a δ) := by
  funext δ
  unfold bnd pur
  dsimp only
  cases h : f δ <;> rfl
theorem lft_pur {α : Type} (o : Option α) : lft o = pur (fun _ => o) := by
  funext δ; unfold lft pur; rfl
theorem ret_pur {α : Type} (a : α) : ret a = pur (fun _ => some a) := rfl

/-! ### readings by data -/
def tM (w : World) (K : PySem.W.Frag) (f : M D) : TE := fun σ H Q => ∃ Z F0 F δ d δ', StR w K Z F0 δ σ F H ∧ f δ = some (d, δ') ∧
  ∀ v F' H', Ex F F' → StR w K Z F0 δ' σ F' H' → Rp w K F' v d → Q v H'
def tMT (w : World) (K : PySem.W.Frag) (f : M Bool) : TT := fun σ H Q => ∃ Z F0 F δ d δ', StR w K Z F0 δ σ F H ∧ f δ = some (d, δ') ∧
  ∀ F' H', Ex F F' → StR w K Z F0 δ' σ F' H' → Q d H'
def tMA (w : World) (K : PySem.W.Frag) (f : M (List D)) : TA := fun σ H Q => ∃ Z F0 F δ d δ', StR w K Z F0 δ σ F H ∧ f δ = some (d, δ') ∧
  ∀ vs F' H', Ex F F' → StR w K Z F0 δ' σ F' H' → RpAll w K F' vs d → Q vs H'
abbrev PM (X : Cx) (e : Expr) (f : M D) : Prop := PE X e (tM X.w X.K f)
abbrev PMT (X : Cx) (e : Expr) (f : M Bool) : Prop := PT X e (tMT X.w X.K f)
abbrev PMW (X : Cx) (e : Expr) (f : M Bool) : Prop := PW X e (tMT X.w X.K f)
abbrev PMA (X : Cx) (es : List Expr) (f : M (List D)) : Prop := PA X es (tMA X.w X.K f)
abbrev PX (X : Cx) (e : Expr) (f : S → Option D) : Prop := PM X e (pur f)
abbrev PXT (X : Cx) (e : Expr) (f : S → Option Bool) : Prop := PMT X e (pur f)

section
variable {X : Cx} {e : Expr}
theorem PE.monoI {t t' : TE} (h : PE X e t) (m : ∀ pins s σ H Q, Inv X pins σ H s → t' σ H Q → t σ H Q) : PE X e t' :=
  ⟨fun pins s σ H Q I q => h.run pins s σ H Q I (m pins s σ H Q I q)⟩
theorem PE.mono {t t' : TE} (h : PE X e t) (m : ∀ σ H Q, t' σ H Q → t σ H Q) : PE X e t' := PE.monoI h fun _ _ σ H Q _ q => m σ H Q q
theorem PT.mono {t t' : TT} (h : PT X e t) (m : ∀ σ H Q, t' σ H Q → t σ H Q) : PT X e t' :=
  ⟨fun pins s σ H Q I q => h.run pins s σ H Q I (m σ H Q q)⟩
theorem PW.mono {t t' : TT} (h : PW X e t) (m : ∀ σ H Q, t' σ H Q → t σ H Q) : PW X e t' :=
  ⟨fun wh pins s σ H Q I q => h.run wh pins s σ H Q I (m σ H Q q)⟩
theorem PA.mono {es : List Expr} {t t' : TA} (h : PA X es t) (m : ∀ σ H Q, t' σ H Q → t σ H Q) : PA X es t' :=
  ⟨fun pos pins s σ H Q I q => h.run pos pins s σ H Q I (m σ H Q q)⟩
theorem PM.cast {f g : M D} (h : PM X e f) (q : f = g) : PM X e g := q ▸ h
theorem PMT.cast {f g : M Bool} (h : PMT X e f) (q : f = g) : PMT X e g := q ▸ h
theorem PMA.cast {es : List Expr} {f g : M (List D)} (h : PMA X es f) (q : f = g) : PMA X es g := q ▸ h
end
end Pf

set_option Elab.async false
set_option linter.all false
set_option maxRecDepth 100000
set_option maxHeartbeats 4000000
namespace Pf
open PySem L2

/-! ### operations by data -/
def OpD (w : World) (K : PySem.W.Frag) (r : R2) (op : D → D → Option D) : Prop := ∀ (F H : Hp) (x y : V) (a b d : D) (Q : VK), Ex F H → Rp w K F x a → Rp w K F y b → op a b = some d →
  (∀ v F' H', Gw F H F' H' → Rp w K F' v d → Q v H') → r x y H Q
def UnD (w : World) (K : PySem.W.Frag) (r : V → Hp → VK → Prop) (op : D → Option D) : Prop := ∀ (F H : Hp) (x : V) (a d : D) (Q : VK), Ex F H → Rp w K F x a → op a = some d →
  (∀ v F' H', Gw F H F' H' → Rp w K F' v d → Q v H') → r x H Q
def CallD (w : World) (K : PySem.W.Frag) (r : List V → Hp → VK → Prop) (op : List D → Option D) : Prop := ∀ (F H : Hp) (xs : List V) (as : List D) (d : D) (Q : VK), Ex F H → RpAll w K F xs as → op as = some d →
  (∀ v F' H', Gw F H F' H' → Rp w K F' v d → Q v H') → r xs H Q
def MtD (w : World) (K : PySem.W.Frag) (T : String) (r : V → List V → Hp → VK → Prop) (op : D → List D → Option D) : Prop := ∀ (F H : Hp) (x : V) (a : D) , Ex F H → Rp w K F x a → (∃ as d, op a as = some d) →
  tyV K T x H ∧ ∀ (F H : Hp) (xs : List V) (as : List D) (d : D) (Q : VK), Ex F H → Rp w K F x a → RpAll w K F xs as → op a as = some d →
  (∀ v F' H', Gw F H F' H' → Rp w K F' v d → Q v H') → r x xs H Q
def SlD (w : World) (K : PySem.W.Frag) (r : V → Option Int → Option Int → Hp → VK → Prop) (op : D → Option Int → Option Int → Option D) : Prop := ∀ (F H : Hp) (x : V) (lo hi : Option Int) (a d : D) (Q : VK), Ex F H → Rp w K F x a → op a lo hi = some d →
  (∀ v F' H', Gw F H F' H' → Rp w K F' v d → Q v H') → r x lo hi H Q

def orR (r r' : R2) : R2 := fun x y H Q => r x y H Q ∨ r' x y H Q
theorem opR_or {X : Cx} {f : Value → Value → Sem Value} {r r' : R2} (h : OpR X f r) (h' : OpR X f r') : OpR X f (orR r r') := by
  intro pins s σ H x y v u Q I rx ry q
  rcases q with q | q
  · exact h pins s σ H x y v u Q I rx ry q
  · exact h' pins s σ H x y v u Q I rx ry q
def orC (r r' : List V → Hp → VK → Prop) : List V → Hp → VK → Prop := fun x H Q => r x H Q ∨ r' x H Q
theorem callR_or {X : Cx} {f : Value} {r r' : List V → Hp → VK → Prop} (h : CallR X f r) (h' : CallR X f r') : CallR X f (orC r r') := by
  intro pins s σ H x v Q I rx q
  rcases q with q | q
  · exact h pins s σ H x v Q I rx q
  · exact h' pins s σ H x v Q I rx q

/-! ### combinators -/
def m1 (op : D → Option D) (fa : M D) : M D := bnd fa fun x => lft (op x)
def m2 (op : D → D → Option D) (fa fb : M D) : M D := bnd fa fun x => bnd fb fun y => lft (op x y)
def mA (op : List D → Option D) (fa : M (List D)) : M D := bnd fa fun x => lft (op x)
def mB (op : D → List D → Option D) (fo : M D) (fa : M (List D)) : M D := bnd fo fun x => bnd fa fun y => lft (op x y)
def mCons (f : M D) (g : M (List D)) : M (List D) := bnd f fun x => bnd g fun xs => ret (x :: xs)
def mNil : M (List D) := ret []
def mIf (c : M Bool) (f g : M D) : M D := bnd c fun b => if b then f else g
def mAnd (f g : M D) : M D := bnd f fun x => match x with
  | .bool true => g
  | .bool false => ret (.bool false)
  | _ => fun _ => none
def mOr (f g : M D) : M D := bnd f fun x => match x with
  | .bool false => g
  | .bool true => ret (.bool true)
  | _ => fun _ => none
def notD : D → Option D
  | .bool b => some (.bool (!b))
  | _ => none
def mTest (f : M D) : M Bool := bnd f fun x => match x with
  | .bool b => ret b
  | _ => fun _ => none
def mAndT (f g : M Bool) : M Bool := bnd f fun b => if b then g else ret false
def mOrT (f g : M Bool) : M Bool := bnd f fun b => if b then ret true else g
def mNotT (f : M Bool) : M Bool := bnd f fun b => ret (!b)
def p1 (op : D → Option D) (f : S → Option D) : S → Option D := fun δ => (f δ).bind op
def p2 (op : D → D → Option D) (f g : S → Option D) : S → Option D := fun δ => (f δ).bind fun x => (g δ).bind fun y => op x y
def pA (op : List D → Option D) (f : S → Option (List D)) : S → Option D := fun δ => (f δ).bind op
def pB (op : D → List D → Option D) (f : S → Option D) (g : S → Option (List D)) : S → Option D := fun δ => (f δ).bind fun x => (g δ).bind fun y => op x y
def pCons (f : S → Option D) (g : S → Option (List D)) : S → Option (List D) := fun δ => (f δ).bind fun x => (g δ).bind fun xs => some (x :: xs)
def pNil : S → Option (List D) := fun _ => some []
def pIf (c : S → Option Bool) (f g : S → Option D) : S → Option D := fun δ => (c δ).bind fun b => if b then f δ else g δ
def pAnd (f g : S → Option D) : S → Option D := fun δ => (f δ).bind fun x => match x with
  | .bool true => g δ
  | .bool false => some (.bool false)
  | _ => none
def pOr (f g : S → Option D) : S → Option D := fun δ => (f δ).bind fun x => match x with
  | .bool false => g δ
  | .bool true => some (.bool true)
  | _ => none
def pTest (f : S → Option D) : S → Option Bool := fun δ => (f δ).bind fun x => match x with
  | .bool b => some b
  | _ => none
def pAndT (f g : S → Option Bool) : S → Option Bool := fun δ => (f δ).bind fun b => if b then g δ else some false
def pOrT (f g : S → Option Bool) : S → Option Bool := fun δ => (f δ).bind fun b => if b then some true else g δ
def pNotT (f : S → Option Bool) : S → Option Bool := fun δ => (f δ).map (!·)
theorem m1_pur {op f} : m1 op (pur f) = pur (p1 op f) := by
  funext δ; unfold m1 bnd pur lft p1; dsimp only; cases h : f δ <;> rfl
theorem m2_pur {op f g} : m2 op (pur f) (pur g) = pur (p2 op f g) := by
  funext δ; unfold m2 bnd pur lft p2; dsimp only
  cases h : f δ with
  | none => rfl
  | some x => dsimp only; cases h2 : g δ <;> rfl
theorem mA_pur {op f} : mA op (pur f) = pur (pA op f) := by
  funext δ; unfold mA bnd pur lft pA; dsimp only; cases h : f δ <;> rfl
theorem mB_pur {op f g} : mB op (pur f) (pur g) = pur (pB op f g) := by
  funext δ; unfold mB bnd pur lft pB; dsimp only
  cases h : f δ with
  | none => rfl
  | some x => dsimp only; cases h2 : g δ <;> rfl
theorem mCons_pur {f g} : mCons (pur f) (pur g) = pur (pCons f g) := by
  funext δ; unfold mCons bnd pur ret pCons; dsimp only
  cases h : f δ with
  | none => rfl
  | some x => dsimp only; cases h2 : g δ <;> rfl
theorem mNil_pur : mNil = pur pNil := rfl
theorem mIf_pur {c f g} : mIf (pur c) (pur f) (pur g) = pur (pIf c f g) := by
  funext δ; unfold mIf bnd pur pIf; dsimp only
  cases h : c δ with
  | none => rfl
  | some b => cases b <;> rfl
theorem mAnd_pur {f g} : mAnd (pur f) (pur g) = pur (pAnd f g) := by
  funext δ; unfold mAnd bnd pur pAnd; dsimp only
  cases h : f δ with
  | none => rfl
  | some x => cases x with
    | bool b => cases b <;> rfl
    | _ => rfl
theorem mOr_pur {f g} : mOr (pur f) (pur g) = pur (pOr f g) := by
  funext δ; unfold mOr bnd pur pOr; dsimp only
  cases h : f δ with
  | none => rfl
  | some x => cases x with
    | bool b => cases b <;> rfl
    | _ => rfl
theorem mTest_pur {f} : mTest (pur f) = pur (pTest f) := by
  funext δ; unfold mTest bnd pur pTest; dsimp only
  cases h : f δ with
  | none => rfl
  | some x => cases x <;> rfl
theorem mAndT_pur {f g} : mAndT (pur f) (pur g) = pur (pAndT f g) := by
  funext δ; unfold mAndT bnd pur pAndT; dsimp only
  cases h : f δ with
  | none => rfl
  | some b => cases b <;> rfl
theorem mOrT_pur {f g} : mOrT (pur f) (pur g) = pur (pOrT f g) := by
  funext δ; unfold mOrT bnd pur pOrT; dsimp only
  cases h : f δ with
  | none => rfl
  | some b => cases b <;> rfl
theorem mNotT_pur {f} : mNotT (pur f) = pur (pNotT f) := by
  funext δ; unfold mNotT bnd pur pNotT; dsimp only
  cases h : f δ <;> rfl

section
variable {X : Cx} {a b c : Expr} {fa fb fc : M D} {ga gb gc : S → Option D} {pos : Pos}

/-! ### names, constants -/
def slot (i : Nat) : S → Option D := fun δ => match δ[i]? with
  | some (.im d) => some d
  | _ => none
theorem px_var {i : Nat} {x : Str} (hN : X.N[i]? = some x := by rfl) (hv : Vis X.env.scope x := by first | exact Or.inl rfl | exact Or.inr (Or.inl rfl) | exact Or.inr (Or.inr rfl))
    (hd : (x == ("__debug__" : Str)) = false := by decide) (hcd : (x == ("__classdict__" : Str)) = false := by decide) : PX X (.Name x pos) (slot i) :=
  PE.mono (pe_var hN hv hd hcd) fun σ H Q => by
    rintro ⟨Z, F0, F, δ, d, δ', st, hf, q⟩
    obtain ⟨hf, rfl⟩ := pur_some hf
    unfold slot at hf
    split at hf
    · rename_i d' e
      cases hf
      obtain ⟨fp, h1, h2, h3⟩ := st.sl
      obtain ⟨v, e1, r⟩ := h1 i _ e
      refine ⟨v, ?_, q v F H (Ex.refl F) st r⟩
      cases e2 : σ[i]? with
      | none => rw [e2] at e1; cases e1
      | some o => rw [e2] at e1; exact congrArg some e1
    · cases hf
theorem tM_const {v : V} {d : D} {w : World} {K : PySem.W.Frag} (r : ∀ F, Rp w K F v d) (σ : L2.St) (H : Hp) (Q : VK) (h : tM w K (pur fun _ => some d) σ H Q) : tC v σ H Q := by
  obtain ⟨Z, F0, F, δ, d', δ', st, hf, q⟩ := h
  obtain ⟨hf, rfl⟩ := pur_some hf
  cases hf
  exact q v F H (Ex.refl F) st (r F)
theorem px_int {i : Int} {j : Nat} : PX X (.Constant (.int i) j pos) (fun _ => some (.int i)) := PE.mono pe_int (tM_const fun _ => .int i)
theorem px_bl {i : Bool} {j : Nat} : PX X (.Constant (.bool i) j pos) (fun _ => some (.bool i)) := PE.mono pe_bl (tM_const fun _ => .bl i)
theorem px_non {j : Nat} : PX X (.Constant .none j pos) (fun _ => some .none) := PE.mono pe_non (tM_const fun _ => .non)
theorem px_str {i : Str} {j : Nat} : PX X (.Constant (.str i) j pos) (fun _ => some (.str i)) := PE.mono pe_str (tM_const fun _ => .str i)
theorem px_glob {x : Str} {v : V} {d : D} {u : Value} (hm : X.mg x = some u) (r : RelV v u) (rp : ∀ F, Rp X.w X.K F v d) (hg : Gl X x := by rfl) (hd : (x == ("__debug__" : Str)) = false := by decide) : PX X (.Name x pos) (fun _ => some d) :=
  PE.mono (pe_glob hg hm r hd) (tM_const rp)

/-! ### operators -/
theorem tM_op {w : World} {K : PySem.W.Frag} {r : R2} {op : D → D → Option D} (hd : OpD w K r op) (σ : L2.St) (H : Hp) (Q : VK) (h : tM w K (m2 op fa fb) σ H Q) : tOp r (tM w K fa) (tM w K fb) σ H Q := by
  obtain ⟨Z, F0, F, δ, d, δ', st, hf, q⟩ := h
  obtain ⟨x, δ1, h1, hf⟩ := bnd_some hf
  obtain ⟨y, δ2, h2, hf⟩ := bnd_some hf
  obtain ⟨hw, rfl⟩ := lft_some hf
  replace hf := hw
  refine ⟨Z, F0, F, δ, x, δ1, st, h1, fun v1 F1 H1 e1 st1 r1 => ⟨Z, F0, F1, δ1, y, _, st1, h2, fun v2 F2 H2 e2 st2 r2 => ?_⟩⟩
  exact hd F2 H2 v1 v2 x y d Q st2.ef (r1.mono e2) r2 hf fun v F' H' g r => q v F' H' ((e1.trans e2).trans g.f) (st2.grow g) r
theorem pm_op {op : Operator} {r : R2} {opd : D → D → Option D} (ho : OpR X (binaryOp op) r) (hd : OpD X.w X.K r opd) (ha : PM X a fa) (hb : PM X b fb) : PM X (.BinOp a op b pos) (m2 opd fa fb) := PE.mono (pe_op ho ha hb) (tM_op hd)
theorem px_op {op : Operator} {r : R2} {opd : D → D → Option D} (ho : OpR X (binaryOp op) r) (hd : OpD X.w X.K r opd) (ha : PX X a ga) (hb : PX X b gb) : PX X (.BinOp a op b pos) (p2 opd ga gb) := (pm_op ho hd ha hb).cast m2_pur
theorem pm_cmp {op : CmpOp} {r : R2} {opd : D → D → Option D} (ho : OpR X (compareOp op) r) (hd : OpD X.w X.K r opd) (ha : PM X a fa) (hb : PM X b fb) (hm : behindInMarks op b = false) : PM X (.Compare a [op] [b] pos) (m2 opd fa fb) := PE.mono (pe_cmpR ho ha hb hm) (tM_op hd)
theorem px_cmp {op : CmpOp} {r : R2} {opd : D → D → Option D} (ho : OpR X (compareOp op) r) (hd : OpD X.w X.K r opd) (ha : PX X a ga) (hb : PX X b gb) (hm : behindInMarks op b = false) : PX X (.Compare a [op] [b] pos) (p2 opd ga gb) := (pm_cmp ho hd ha hb hm).cast m2_pur
theorem tM_test {w : World} {K : PySem.W.Frag} {t : TE} (ht : ∀ σ H Q, tM w K fa σ H Q → t σ H Q) (σ : L2.St) (H : Hp) (Q : Bool → Hp → Prop) (h : tMT w K (mTest fa) σ H Q) : tTest t σ H Q := by
  obtain ⟨Z, F0, F, δ, d, δ', st, hf, q⟩ := h
  obtain ⟨x, δ1, h1, hf⟩ := bnd_some hf
  refine ht _ _ _ ⟨Z, F0, F, δ, x, δ1, st, h1, fun v1 F1 H1 e1 st1 r1 => ?_⟩
  cases r1 with
  | bl k => cases hf; exact ⟨_, rfl, q F1 H1 e1 st1⟩
  | _ => cases hf
theorem pmt_cmp {op : CmpOp} {r : R2} {opd : D → D → Option D} (ho : OpR X (compareOp op) r) (hd : OpD X.w X.K r opd) (ha : PM X a fa) (hb : PM X b fb) (hm : behindInMarks op b = false) : PMT X (.Compare a [op] [b] pos) (mTest (m2 opd fa fb)) :=
  PT.mono (pt_cmpR ho ha hb hm) (tM_test (tM_op hd))
theorem pxt_cmp {op : CmpOp} {r : R2} {opd : D → D → Option D} (ho : OpR X (compareOp op) r) (hd : OpD X.w X.K r opd) (ha : PX X a ga) (hb : PX X b gb) (hm : behindInMarks op b = false) : PXT X (.Compare a [op] [b] pos) (pTest (p2 opd ga gb)) :=
  (pmt_cmp ho hd ha hb hm).cast (by rw [m2_pur, mTest_pur])
/-- an expression that is a bool, as a test -/
theorem pmt_val (h : PM X a fa) (he : ∀ whole, isTrue a X.env whole = (do let v ← whole; standAt a.pos; holding [v] (truthy v)) := by intro _; rfl) : PMT X a (mTest fa) :=
  PT.mono (pt_val h he) fun σ H Q q => tM_test (t := tM X.w X.K fa) (fun _ _ _ z => z) σ H Q q
theorem pxt_val (h : PX X a ga) (he : ∀ whole, isTrue a X.env whole = (do let v ← whole; standAt a.pos; holding [v] (truthy v)) := by intro _; rfl) : PXT X a (pTest ga) := (pmt_val h he).cast mTest_pur
/-- chains -/
def mChain (op op' : D → D → Option D) (fa fb fc : M D) : M D := bnd fa fun x => bnd fb fun y => bnd (lft (op x y)) fun z => match z with
  | .bool true => bnd fc fun u => lft (op' y u)
  | .bool false => ret (.bool false)
  | _ => fun _ => none
def pChain (op op' : D → D → Option D) (fa fb fc : S → Option D) : S → Option D := fun δ => (fa δ).bind fun x => (fb δ).bind fun y => (op x y).bind fun z => match z with
  | .bool true => (fc δ).bind fun u => op' y u
  | .bool false => some (.bool false)
  | _ => none
theorem mChain_pur {op op' f g h} : mChain op op' (pur f) (pur g) (pur h) = pur (pChain op op' f g h) := by
  funext δ; unfold mChain bnd pur lft pChain ret; dsimp only
  cases e1 : f δ with
  | none => rfl
  | some x =>
    dsimp only
    cases e2 : g δ with
    | none => rfl
    | some y =>
      dsimp only
      cases e3 : op x y with
      | none => simp [e3]
      | some z =>
        cases z with
        | bool b =>
          cases b with
          | false => simp [e3]
          | true =>
            simp only [e3, Option.bind_some]
            cases e4 : h δ with
            | none => rfl
            | some u => simp only [Option.bind_some]
        | _ => simp [e3]
/-- an operation that gives a bool, or nothing -/
def BoolOp2 (op : D → D → Option D) : Prop := ∀ a b d, op a b = some d → ∃ k, d = .bool k
theorem tM_chain {w : World} {K : PySem.W.Frag} {r r' : R2} {op op' : D → D → Option D} (hd : OpD w K r op) (hd' : OpD w K r' op') (σ : L2.St) (H : Hp) (Q : VK) (h : tM w K (mChain op op' fa fb fc) σ H Q) :
    tChain r r' (tM w K fa) (tM w K fb) (tM w K fc) σ H Q := by
  obtain ⟨Z, F0, F, δ, d, δ', st, hf, q⟩ := h
  obtain ⟨x, δ1, h1, hf⟩ := bnd_some hf
  obtain ⟨y, δ2, h2, hf⟩ := bnd_some hf
  obtain ⟨z, δ3, h3, hf⟩ := bnd_some hf
  obtain ⟨hw, rfl⟩ := lft_some h3
  replace h3 := hw
  refine ⟨Z, F0, F, δ, x, δ1, st, h1, fun v1 F1 H1 e1 st1 r1 => ⟨Z, F0, F1, δ1, y, _, st1, h2, fun v2 F2 H2 e2 st2 r2 => ?_⟩⟩
  refine hd F2 H2 v1 v2 x y z _ st2.ef (r1.mono e2) r2 h3 fun v F3 H3 g r => ?_
  cases r with
  | bl b =>
    refine ⟨b, rfl, ?_⟩
    cases b with
    | false => cases hf; exact q _ F3 H3 ((e1.trans e2).trans g.f) (st2.grow g) (.bl false)
    | true =>
      obtain ⟨u, δ4, h4, hf⟩ := bnd_some hf
      obtain ⟨hw, rfl⟩ := lft_some hf
      replace hf := hw
      exact ⟨Z, F0, F3, δ3, u, _, st2.grow g, h4, fun v4 F4 H4 e4 st4 r4 => hd' F4 H4 v2 v4 y u d Q st4.ef (r2.mono (g.f.trans e4)) r4 hf fun v F' H' g' r' => q v F' H' ((((e1.trans e2).trans g.f).trans e4).trans g'.f) (st4.grow g') r'⟩
  | _ => cases hf
theorem pm_chain {op op' : CmpOp} {r r' : R2} {opd opd' : D → D → Option D} (ho : OpR X (compareOp op) r) (ho' : OpR X (compareOp op') r') (hd : OpD X.w X.K r opd) (hd' : OpD X.w X.K r' opd') (ha : PM X a fa) (hb : PM X b fb) (hc : PM X c fc)
    (hm : lastMarks [op, op'] [b, c] = false := by with_unfolding_all rfl) : PM X (.Compare a [op, op'] [b, c] pos) (mChain opd opd' fa fb fc) := PE.mono (pe_chain ho ho' ha hb hc hm) (tM_chain hd hd')
theorem px_chain {op op' : CmpOp} {r r' : R2} {opd opd' : D → D → Option D} (ho : OpR X (compareOp op) r) (ho' : OpR X (compareOp op') r') (hd : OpD X.w X.K r opd) (hd' : OpD X.w X.K r' opd') (ha : PX X a ga) (hb : PX X b gb) (hc : PX X c gc)
    (hm : lastMarks [op, op'] [b, c] = false := by with_unfolding_all rfl) : PX X (.Compare a [op, op'] [b, c] pos) (pChain opd opd' ga gb gc) := (pm_chain ho ho' hd hd' ha hb hc hm).cast mChain_pur
theorem pxt_chain {op op' : CmpOp} {r r' : R2} {opd opd' : D → D → Option D} (ho : OpR X (compareOp op) r) (ho' : OpR X (compareOp op') r') (hd : OpD X.w X.K r opd) (hd' : OpD X.w X.K r' opd') (ha : PX X a ga) (hb : PX X b gb) (hc : PX X c gc)
    (hm : lastMarks [op, op'] [b, c] = false := by with_unfolding_all rfl) : PXT X (.Compare a [op, op'] [b, c] pos) (pTest (pChain opd opd' ga gb gc)) :=
  (show PMT X _ (mTest (mChain opd opd' (pur ga) (pur gb) (pur gc))) from PT.mono (pt_chain ho ho' ha hb hc hm) (tM_test (tM_chain hd hd'))).cast (by rw [mChain_pur, mTest_pur])
/-- one operand -/
theorem pm_un {op : UnaryOp} {r : V → Hp → VK → Prop} {opd : D → Option D} (ho : UnR X (unaryOp op) r) (hd : UnD X.w X.K r opd) (ha : PM X a fa) : PM X (.UnaryOp op a pos) (m1 opd fa) := PE.mono (pe_un ho ha) fun σ H Q h => by
  obtain ⟨Z, F0, F, δ, d, δ', st, hf, q⟩ := h
  obtain ⟨x, δ1, h1, hf⟩ := bnd_some hf
  obtain ⟨hw, rfl⟩ := lft_some hf
  replace hf := hw
  exact ⟨Z, F0, F, δ, x, _, st, h1, fun v1 F1 H1 e1 st1 r1 => hd F1 H1 v1 x d Q st1.ef r1 hf fun v F' H' g r => q v F' H' (e1.trans g.f) (st1.grow g) r⟩
theorem px_un {op : UnaryOp} {r : V → Hp → VK → Prop} {opd : D → Option D} (ho : UnR X (unaryOp op) r) (hd : UnD X.w X.K r opd) (ha : PX X a ga) : PX X (.UnaryOp op a pos) (p1 opd ga) := (pm_un ho hd ha).cast m1_pur
theorem pm_not (ha : PM X a fa) : PM X (.UnaryOp .Not a pos) (m1 notD fa) := PE.mono (pe_not ha) fun σ H Q h => by
  obtain ⟨Z, F0, F, δ, d, δ', st, hf, q⟩ := h
  obtain ⟨x, δ1, h1, hf⟩ := bnd_some hf
  obtain ⟨hw, rfl⟩ := lft_some hf
  replace hf := hw
  refine ⟨Z, F0, F, δ, x, _, st, h1, fun v1 F1 H1 e1 st1 r1 => ?_⟩
  cases r1 with
  | bl b => cases hf; exact ⟨b, rfl, q _ F1 H1 e1 st1 (.bl _)⟩
  | _ => cases hf
theorem px_not (ha : PX X a ga) : PX X (.UnaryOp .Not a pos) (p1 notD ga) := (pm_not ha).cast m1_pur
theorem pmt_not {f : M Bool} (ha : PMT X a f) : PMT X (.UnaryOp .Not a pos) (mNotT f) := PT.mono (pt_not ha) fun σ H Q h => by
  obtain ⟨Z, F0, F, δ, d, δ', st, hf, q⟩ := h
  obtain ⟨x, δ1, h1, hf⟩ := bnd_some hf
  cases hf
  exact ⟨Z, F0, F, δ, x, _, st, h1, fun F1 H1 e1 st1 => q F1 H1 e1 st1⟩
theorem pxt_not {f : S → Option Bool} (ha : PXT X a f) : PXT X (.UnaryOp .Not a pos) (pNotT f) := (pmt_not ha).cast mNotT_pur

/-! ### and, or -/
variable {rest : List Expr}
theorem pm_one {op : BoolOp} (h : PM X a fa) : PM X (.BoolOp op [a] pos) fa := pe_one h
theorem pm_and (ha : PM X a fa) (hb : PM X (.BoolOp .And (b :: rest) pos) fb) : PM X (.BoolOp .And (a :: b :: rest) pos) (mAnd fa fb) := PE.mono (pe_and ha hb) fun σ H Q h => by
  obtain ⟨Z, F0, F, δ, d, δ', st, hf, q⟩ := h
  obtain ⟨x, δ1, h1, hf⟩ := bnd_some hf
  refine ⟨Z, F0, F, δ, x, δ1, st, h1, fun v1 F1 H1 e1 st1 r1 => ?_⟩
  cases r1 with
  | bl k =>
    refine ⟨k, rfl, ?_⟩
    cases k with
    | false => cases hf; exact q _ F1 H1 e1 st1 (.bl false)
    | true => exact ⟨Z, F0, F1, δ1, d, δ', st1, hf, fun v F' H' e2 st2 r2 => q v F' H' (e1.trans e2) st2 r2⟩
  | _ => cases hf
theorem pm_or (ha : PM X a fa) (hb : PM X (.BoolOp .Or (b :: rest) pos) fb) : PM X (.BoolOp .Or (a :: b :: rest) pos) (mOr fa fb) := PE.mono (pe_or ha hb) fun σ H Q h => by
  obtain ⟨Z, F0, F, δ, d, δ', st, hf, q⟩ := h
  obtain ⟨x, δ1, h1, hf⟩ := bnd_some hf
  refine ⟨Z, F0, F, δ, x, δ1, st, h1, fun v1 F1 H1 e1 st1 r1 => ?_⟩
  cases r1 with
  | bl k =>
    refine ⟨k, rfl, ?_⟩
    cases k with
    | true => cases hf; exact q _ F1 H1 e1 st1 (.bl true)
    | false => exact ⟨Z, F0, F1, δ1, d, δ', st1, hf, fun v F' H' e2 st2 r2 => q v F' H' (e1.trans e2) st2 r2⟩
  | _ => cases hf
theorem px_one {op : BoolOp} (h : PX X a ga) : PX X (.BoolOp op [a] pos) ga := pe_one h
theorem px_and (ha : PX X a ga) (hb : PX X (.BoolOp .And (b :: rest) pos) gb) : PX X (.BoolOp .And (a :: b :: rest) pos) (pAnd ga gb) := (pm_and ha hb).cast mAnd_pur
theorem px_or (ha : PX X a ga) (hb : PX X (.BoolOp .Or (b :: rest) pos) gb) : PX X (.BoolOp .Or (a :: b :: rest) pos) (pOr ga gb) := (pm_or ha hb).cast mOr_pur
section
variable {f g : M Bool} {p q : S → Option Bool}
theorem pmw_and1 (h : PMT X a f) : PMW X (.BoolOp .And [a] pos) f := pw_and1 h
theorem pmw_or1 (h : PMT X a f) : PMW X (.BoolOp .Or [a] pos) f := pw_or1 h
theorem pmw_and (ha : PMT X a f) (hb : PMW X (.BoolOp .And (b :: rest) pos) g) : PMW X (.BoolOp .And (a :: b :: rest) pos) (mAndT f g) := PW.mono (pw_and ha hb) fun σ H Q h => by
  obtain ⟨Z, F0, F, δ, d, δ', st, hf, q⟩ := h
  obtain ⟨x, δ1, h1, hf⟩ := bnd_some hf
  refine ⟨Z, F0, F, δ, x, δ1, st, h1, fun F1 H1 e1 st1 => ?_⟩
  cases x with
  | true => exact ⟨Z, F0, F1, δ1, d, δ', st1, hf, fun F' H' e2 st2 => q F' H' (e1.trans e2) st2⟩
  | false => cases hf; exact q F1 H1 e1 st1
theorem pmw_or (ha : PMT X a f) (hb : PMW X (.BoolOp .Or (b :: rest) pos) g) : PMW X (.BoolOp .Or (a :: b :: rest) pos) (mOrT f g) := PW.mono (pw_or ha hb) fun σ H Q h => by
  obtain ⟨Z, F0, F, δ, d, δ', st, hf, q⟩ := h
  obtain ⟨x, δ1, h1, hf⟩ := bnd_some hf
  refine ⟨Z, F0, F, δ, x, δ1, st, h1, fun F1 H1 e1 st1 => ?_⟩
  cases x with
  | false => exact ⟨Z, F0, F1, δ1, d, δ', st1, hf, fun F' H' e2 st2 => q F' H' (e1.trans e2) st2⟩
  | true => cases hf; exact q F1 H1 e1 st1
abbrev PXW (X : Cx) (e : Expr) (f : S → Option Bool) : Prop := PMW X e (pur f)
theorem PMW.cast {e : Expr} {f g : M Bool} (h : PMW X e f) (q : f = g) : PMW X e g := q ▸ h
theorem pxw_and1 (h : PXT X a p) : PXW X (.BoolOp .And [a] pos) p := pw_and1 h
theorem pxw_or1 (h : PXT X a p) : PXW X (.BoolOp .Or [a] pos) p := pw_or1 h
theorem pxw_and (ha : PXT X a p) (hb : PXW X (.BoolOp .And (b :: rest) pos) q) : PXW X (.BoolOp .And (a :: b :: rest) pos) (pAndT p q) := PMW.cast (pmw_and ha hb) mAndT_pur
theorem pxw_or (ha : PXT X a p) (hb : PXW X (.BoolOp .Or (b :: rest) pos) q) : PXW X (.BoolOp .Or (a :: b :: rest) pos) (pOrT p q) := PMW.cast (pmw_or ha hb) mOrT_pur
theorem pmt_w (h : PMW X a f) : PMT X a f := PW.pt h
theorem pxt_w (h : PXW X a p) : PXT X a p := PW.pt h
theorem pm_if (hc : PMT X c f) (ha : PM X a fa) (hb : PM X b fb) : PM X (.IfExp c a b pos) (mIf f fa fb) := PE.mono (pe_ifExp hc ha hb) fun σ H Q h => by
  obtain ⟨Z, F0, F, δ, d, δ', st, hf, q⟩ := h
  obtain ⟨x, δ1, h1, hf⟩ := bnd_some hf
  refine ⟨Z, F0, F, δ, x, δ1, st, h1, fun F1 H1 e1 st1 => ?_⟩
  cases x with
  | true => exact ⟨Z, F0, F1, δ1, d, δ', st1, hf, fun v F' H' e2 st2 r => q v F' H' (e1.trans e2) st2 r⟩
  | false => exact ⟨Z, F0, F1, δ1, d, δ', st1, hf, fun v F' H' e2 st2 r => q v F' H' (e1.trans e2) st2 r⟩
theorem px_if (hc : PXT X c p) (ha : PX X a ga) (hb : PX X b gb) : PX X (.IfExp c a b pos) (pIf p ga gb) := (pm_if hc ha hb).cast mIf_pur
end

/-! ### argument lists -/
variable {es : List Expr} {fl : M (List D)} {gl : S → Option (List D)}
theorem pma_nil : PMA X [] mNil := PA.mono pa_nil fun σ H Q h => by
  obtain ⟨Z, F0, F, δ, d, δ', st, hf, q⟩ := h
  cases hf
  exact q [] F H (Ex.refl F) st .nil
theorem pma_cons (ha : PM X a fa) (hr : PMA X es fl) (hs : starEach (a :: es) X.env = (false, eval a X.env) :: starEach es X.env := by rfl) : PMA X (a :: es) (mCons fa fl) := PA.mono (pa_cons ha hr hs) fun σ H Q h => by
  obtain ⟨Z, F0, F, δ, d, δ', st, hf, q⟩ := h
  obtain ⟨x, δ1, h1, hf⟩ := bnd_some hf
  obtain ⟨y, δ2, h2, hf⟩ := bnd_some hf
  cases hf
  exact ⟨Z, F0, F, δ, x, δ1, st, h1, fun v1 F1 H1 e1 st1 r1 => ⟨Z, F0, F1, δ1, y, _, st1, h2, fun v2 F2 H2 e2 st2 r2 => q _ F2 H2 (e1.trans e2) st2 (.cons (r1.mono e2) r2)⟩⟩
abbrev PXA (X : Cx) (es : List Expr) (f : S → Option (List D)) : Prop := PMA X es (pur f)
theorem pxa_nil : PXA X [] pNil := pma_nil
theorem pxa_cons (ha : PX X a ga) (hr : PXA X es gl) (hs : starEach (a :: es) X.env = (false, eval a X.env) :: starEach es X.env := by rfl) : PXA X (a :: es) (pCons ga gl) := (pma_cons ha hr hs).cast mCons_pur
/-- (a, b, ..), [a, b, ..] frozen -/
def tupD (l : List D) : Option D := if l.length ≤ sizeLine then some (.tuple l) else none
def lstD (l : List D) : Option D := if l.length ≤ sizeLine then some (.list l) else none
theorem pm_tup {k : Nat} (h : PMA X es fl) : PM X (.Tuple es k pos) (mA tupD fl) := PE.mono (pe_tup h) fun σ H Q h => by
  obtain ⟨Z, F0, F, δ, d, δ', st, hf, q⟩ := h
  obtain ⟨x, δ1, h1, hf⟩ := bnd_some hf
  obtain ⟨hw, rfl⟩ := lft_some hf
  replace hf := hw
  refine ⟨Z, F0, F, δ, x, _, st, h1, fun vs F1 H1 e1 st1 r1 => ?_⟩
  unfold tupD at hf
  split at hf
  · rename_i hl
    cases hf
    refine ⟨by rw [r1.length]; exact hl, fun p hp => ?_⟩
    have g : Gw F1 H1 (upd F1 p (.tup vs)) (upd H1 p (.tup vs)) := Gw.new st1.ef hp
    exact q _ _ _ (e1.trans g.f) (st1.grow g) (.tup (SqT.of upd_same) (r1.mono g.f))
  · cases hf
theorem pm_lst (h : PMA X es fl) : PM X (.List es pos) (mA lstD fl) := PE.mono (pe_lst h) fun σ H Q h => by
  obtain ⟨Z, F0, F, δ, d, δ', st, hf, q⟩ := h
  obtain ⟨x, δ1, h1, hf⟩ := bnd_some hf
  obtain ⟨hw, rfl⟩ := lft_some hf
  replace hf := hw
  refine ⟨Z, F0, F, δ, x, _, st, h1, fun vs F1 H1 e1 st1 r1 => ?_⟩
  unfold lstD at hf
  split at hf
  · rename_i hl
    cases hf
    refine ⟨by rw [r1.length]; exact hl, fun p hp => ?_⟩
    have g : Gw F1 H1 (upd F1 p (.lst vs)) (upd H1 p (.lst vs)) := Gw.new st1.ef hp
    exact q _ _ _ (e1.trans g.f) (st1.grow g) (.lst upd_same (r1.mono g.f))
  · cases hf
theorem px_tup {k : Nat} (h : PXA X es gl) : PX X (.Tuple es k pos) (pA tupD gl) := (pm_tup h).cast mA_pur
theorem px_lst (h : PXA X es gl) : PX X (.List es pos) (pA lstD gl) := (pm_lst h).cast mA_pur

/-! ### built-in calls, methods, subscripts, slices -/
theorem tM_cb {w : World} {K : PySem.W.Frag} {r : List V → Hp → VK → Prop} {op : List D → Option D} (hd : CallD w K r op) (σ : L2.St) (H : Hp) (Q : VK) (h : tM w K (mA op fl) σ H Q) : tCB r (tMA w K fl) σ H Q := by
  obtain ⟨Z, F0, F, δ, d, δ', st, hf, q⟩ := h
  obtain ⟨x, δ1, h1, hf⟩ := bnd_some hf
  obtain ⟨hw, rfl⟩ := lft_some hf
  replace hf := hw
  exact ⟨Z, F0, F, δ, x, _, st, h1, fun vs F1 H1 e1 st1 r1 => hd F1 H1 vs x d Q st1.ef r1 hf fun v F' H' g r => q v F' H' (e1.trans g.f) (st1.grow g) r⟩
section
variable {x : Str} {e : Expr} {p : Pos} {id T : String} {r : List V → Hp → VK → Prop} {op : List D → Option D}
theorem pm_callB (hc : CallR X (.builtin id) r) (hd : CallD X.w X.K r op) (hm : X.mg x = none) (hv : bootBuiltins x = some (.builtin id)) (ha : PMA X (e :: es) fl) (hg : Gl X x := by rfl) (hn : x ≠ "__name__" := by decide) (hdb : (x == ("__debug__" : Str)) = false := by decide)
    (he : starEach (e :: es) X.env = (false, eval e X.env) :: starEach es X.env := by rfl) (hpl : (backTo pos (starEach es X.env)).any (·.1) = false := by rfl) : PM X (.Call (.Name x p) (e :: es) [] pos) (mA op fl) :=
  PE.mono (pe_callB hc hg hm hv ha hn hdb he hpl) (tM_cb hd)
theorem px_callB (hc : CallR X (.builtin id) r) (hd : CallD X.w X.K r op) (hm : X.mg x = none) (hv : bootBuiltins x = some (.builtin id)) (ha : PXA X (e :: es) gl) (hg : Gl X x := by rfl) (hn : x ≠ "__name__" := by decide) (hdb : (x == ("__debug__" : Str)) = false := by decide)
    (he : starEach (e :: es) X.env = (false, eval e X.env) :: starEach es X.env := by rfl) (hpl : (backTo pos (starEach es X.env)).any (·.1) = false := by rfl) : PX X (.Call (.Name x p) (e :: es) [] pos) (pA op gl) :=
  (pm_callB hc hd hm hv ha hg hn hdb he hpl).cast mA_pur
theorem pm_callTy (hc : CallR X (.type T) r) (hd : CallD X.w X.K r op) (hm : X.mg x = none) (hv : bootBuiltins x = some (.type T)) (ha : PMA X (e :: es) fl) (hg : Gl X x := by rfl) (hn : x ≠ "__name__" := by decide) (hdb : (x == ("__debug__" : Str)) = false := by decide)
    (he : starEach (e :: es) X.env = (false, eval e X.env) :: starEach es X.env := by rfl) (hpl : (backTo pos (starEach es X.env)).any (·.1) = false := by rfl) : PM X (.Call (.Name x p) (e :: es) [] pos) (mA op fl) :=
  PE.mono (pe_callTy hc hg hm hv ha hn hdb he hpl) (tM_cb hd)
theorem px_callTy (hc : CallR X (.type T) r) (hd : CallD X.w X.K r op) (hm : X.mg x = none) (hv : bootBuiltins x = some (.type T)) (ha : PXA X (e :: es) gl) (hg : Gl X x := by rfl) (hn : x ≠ "__name__" := by decide) (hdb : (x == ("__debug__" : Str)) = false := by decide)
    (he : starEach (e :: es) X.env = (false, eval e X.env) :: starEach es X.env := by rfl) (hpl : (backTo pos (starEach es X.env)).any (·.1) = false := by rfl) : PX X (.Call (.Name x p) (e :: es) [] pos) (pA op gl) :=
  (pm_callTy hc hd hm hv ha hg hn hdb he hpl).cast mA_pur
end
theorem pm_ix {r : R2} {op : D → D → Option D} (hr : IxR X r) (hd : OpD X.w X.K r op) (ha : PM X a fa) (hb : PM X b fb) (hs : PlainIx b := by exact fun _ _ => rfl) : PM X (.Subscript a b pos) (m2 op fa fb) := PE.mono (pe_ix hr ha hb hs) (tM_op hd)
theorem px_ix {r : R2} {op : D → D → Option D} (hr : IxR X r) (hd : OpD X.w X.K r op) (ha : PX X a ga) (hb : PX X b gb) (hs : PlainIx b := by exact fun _ _ => rfl) : PX X (.Subscript a b pos) (p2 op ga gb) := (pm_ix hr hd ha hb hs).cast m2_pur
end
end Pf

set_option Elab.async false
set_option linter.all false
set_option maxRecDepth 100000
set_option maxHeartbeats 4000000
namespace Pf
open PySem L2

inductive Out where
  | nx (δ : S) | rt (d : D) (δ : S) | bk (δ : S) | ct (δ : S) | er (c : Addr) (δ : S)

/-! ### the state: stores, forgetting -/
section
variable {w : World} {K : PySem.W.Frag} {F F' H H' Z F0 : Hp} {δ : S} {σ : L2.St}
theorem StR.drop (h : StR w K Z F0 δ σ F H) : StR w K Z F0 [] [] F H :=
  ⟨h.ef, h.e0, h.ez, h.fz, rfl, fun _ => [], fun i s e => by simp at e, fun i p hp => by simp at hp, fun i j p hp => by simp at hp⟩
theorem join_set_ne {σ : L2.St} {i j : Nat} {v : Option V} (h : i ≠ j) : ((σ.set i v)[j]?).join = (σ[j]?).join := by
  rw [List.getElem?_set_ne h]
theorem join_set_eq {σ : L2.St} {i : Nat} {v : Option V} (h : i < σ.length) : ((σ.set i v)[i]?).join = v := by
  rw [List.getElem?_set_self h]; rfl
theorem StR.put (h : StR w K Z F0 δ σ F H) {i : Nat} {v : V} {d : D} (r : Rp w K F v d) : StR w K Z F0 (δ.set i (.im d)) (σ.set i (some v)) F H := by
  obtain ⟨fp, h1, h2, h3⟩ := h.sl
  refine ⟨h.ef, h.e0, h.ez, h.fz, by simp [h.len], fun j => if j = i then [] else fp j, fun j s e => ?_, fun j p hp => ?_, fun j k p hj hk => ?_⟩
  · by_cases q : j = i
    · subst q
      have hl : j < δ.length := by
        have := (List.getElem?_eq_some_iff.mp e).1
        simpa using this
      rw [List.getElem?_set_self hl] at e
      cases e
      exact ⟨v, join_set_eq (by rw [← h.len]; exact hl), r⟩
    · rw [List.getElem?_set_ne (Ne.symm q)] at e
      dsimp only
      rw [join_set_ne (Ne.symm q), if_neg q]
      exact h1 j s e
  · dsimp only at hp
    by_cases q : j = i
    · rw [if_pos q] at hp; simp at hp
    · rw [if_neg q] at hp; exact h2 j p hp
  · dsimp only at hj hk
    by_cases q : j = i
    · rw [if_pos q] at hj; simp at hj
    · by_cases q2 : k = i
      · rw [if_pos q2] at hk; simp at hk
      · rw [if_neg q] at hj; rw [if_neg q2] at hk; exact h3 j k p hj hk
end

/-! ### readings of statements -/
def OutOk (w : World) (K : PySem.W.Frag) (Dn : Ends) (Z F0 F : Hp) (W : WX) : Out → Prop
  | .nx δ' => ∀ σ' F' H', Ex F F' → StR w K Z F0 δ' σ' F' H' → Dn.nx σ' H'
  | .bk δ' => ∀ σ' F' H', Ex F F' → StR w K Z F0 δ' σ' F' H' → Dn.bk σ' H'
  | .ct δ' => ∀ σ' F' H', Ex F F' → StR w K Z F0 δ' σ' F' H' → Dn.ct σ' H'
  | .rt d δ' => ∀ v σ' F' H', Ex F F' → StR w K Z F0 δ' σ' F' H' → Rp w K F' v d → Dn.rt v H'
  | .er c δ' => ∀ σ' F' H', Ex F F' → StR w K Z F0 δ' σ' F' H' → W (.ref c) none σ' H'
theorem OutOk.mono {w : World} {K : PySem.W.Frag} {Dn : Ends} {Z F0 F F' : Hp} {W : WX} {o : Out} (h : OutOk w K Dn Z F0 F W o) (e : Ex F F') : OutOk w K Dn Z F0 F' W o := by
  cases o with
  | nx δ => exact fun σ' F'' H' q => h σ' F'' H' (e.trans q)
  | bk δ => exact fun σ' F'' H' q => h σ' F'' H' (e.trans q)
  | ct δ => exact fun σ' F'' H' q => h σ' F'' H' (e.trans q)
  | rt d δ => exact fun v σ' F'' H' q => h v σ' F'' H' (e.trans q)
  | er c δ => exact fun σ' F'' H' q => h σ' F'' H' (e.trans q)
def tMS (w : World) (K : PySem.W.Frag) (W : WX) (g : S → Option Out) : TS := fun Dn σ H => ∃ Z F0 F δ o, StR w K Z F0 δ σ F H ∧ g δ = some o ∧ OutOk w K Dn Z F0 F W o
abbrev PMS (X : Cx) (W : WX) (st : Stmt) (g : S → Option Out) : Prop := PS X st (tMS X.w X.K W g)
abbrev PMSs (X : Cx) (W : WX) (st : List Stmt) (g : S → Option Out) : Prop := PSs X st (tMS X.w X.K W g)
def tMG (w : World) (K : PySem.W.Frag) (t : D → S → Option S) : TG := fun v σ H Q => ∃ Z F0 F δ d δ', StR w K Z F0 δ σ F H ∧ Rp w K F v d ∧ t d δ = some δ' ∧ ∀ σ' F' H', Ex F F' → StR w K Z F0 δ' σ' F' H' → Q σ' H'
abbrev PMG (X : Cx) (tg : Expr) (t : D → S → Option S) : Prop := PG X tg (tMG X.w X.K t)
def tMGs (w : World) (K : PySem.W.Frag) (t : List D → S → Option S) : TGs := fun v σ H Q => ∃ Z F0 F δ d δ', StR w K Z F0 δ σ F H ∧ RpAll w K F v d ∧ t d δ = some δ' ∧ ∀ σ' F' H', Ex F F' → StR w K Z F0 δ' σ' F' H' → Q σ' H'
abbrev PMGs (X : Cx) (tg : List Expr) (t : List D → S → Option S) : Prop := PGs X tg (tMGs X.w X.K t)

section
variable {X : Cx} {W : WX} {st : Stmt} {rest : List Stmt} {g h : S → Option Out} {e : Expr} {f : M D} {pos : Pos}
theorem PS.mono {t t' : TS} (h : PS X st t) (m : ∀ D σ H, t' D σ H → t D σ H) : PS X st t' := ⟨fun pins s σ H D I q => h.run pins s σ H D I (m D σ H q)⟩
theorem PSs.mono {sts : List Stmt} {t t' : TS} (h : PSs X sts t) (m : ∀ D σ H, t' D σ H → t D σ H) : PSs X sts t' := ⟨fun pins s σ H D I q => h.run pins s σ H D I (m D σ H q)⟩
theorem PG.mono {tg : Expr} {t t' : TG} (h : PG X tg t) (m : ∀ v σ H Q, t' v σ H Q → t v σ H Q) : PG X tg t' := ⟨fun pins s σ H v u Q I r q => h.run pins s σ H v u Q I r (m v σ H Q q)⟩
theorem PGs.mono {tg : List Expr} {t t' : TGs} (h : PGs X tg t) (m : ∀ v σ H Q, t' v σ H Q → t v σ H Q) : PGs X tg t' := ⟨fun pins s σ H v u Q I r q => h.run pins s σ H v u Q I r (m v σ H Q q)⟩
theorem PI.mono {tg it : Expr} {t t' : TI} (h : PI X tg it t) (m : ∀ σ H Q, t' σ H Q → t σ H Q) : PI X tg it t' := ⟨fun pins s σ H R I q => h.run pins s σ H R I (m σ H R q)⟩
theorem PMSs.cast {sts : List Stmt} {g g' : S → Option Out} (h : PMSs X W sts g) (q : g = g') : PMSs X W sts g' := q ▸ h
theorem PMS.cast {g g' : S → Option Out} (h : PMS X W st g) (q : g = g') : PMS X W st g' := q ▸ h

def seqO (g h : S → Option Out) : S → Option Out := fun δ => match g δ with
  | some (.nx δ') => h δ'
  | r => r
theorem pms_nil : PMSs X W [] (fun δ => some (.nx δ)) := PSs.mono pss_nil fun D σ H => by
  rintro ⟨Z, F0, F, δ, o, st, hg, q⟩
  cases hg
  exact q σ F H (Ex.refl F) st
theorem pms_cons (h1 : PMS X W st g) (h2 : PMSs X W rest h) : PMSs X W (st :: rest) (seqO g h) := PSs.mono (pss_cons h1 h2) fun D σ H => by
  rintro ⟨Z, F0, F, δ, o, st, hg, q⟩
  unfold seqO at hg
  cases e : g δ with
  | none => rw [e] at hg; cases hg
  | some o1 =>
    rw [e] at hg
    refine ⟨Z, F0, F, δ, o1, st, e, ?_⟩
    cases o1 with
    | nx δ' => exact fun σ' F' H' ex st' => ⟨Z, F0, F', δ', o, st', hg, q.mono ex⟩
    | bk δ' => cases hg; exact q
    | ct δ' => cases hg; exact q
    | rt d δ' => cases hg; exact q
    | er c δ' => cases hg; exact q
theorem pms_one (h1 : PMS X W st g) : PMSs X W [st] g := pss_one h1
theorem pms_pass : PMS X W (.Pass pos) (fun δ => some (.nx δ)) := PS.mono ps_pass fun D σ H => by
  rintro ⟨Z, F0, F, δ, o, st, hg, q⟩
  cases hg
  exact q σ F H (Ex.refl F) st
theorem pms_break : PMS X W (.Break pos) (fun δ => some (.bk δ)) := PS.mono ps_break fun D σ H => by
  rintro ⟨Z, F0, F, δ, o, st, hg, q⟩
  cases hg
  exact q σ F H (Ex.refl F) st
theorem pms_continue : PMS X W (.Continue pos) (fun δ => some (.ct δ)) := PS.mono ps_continue fun D σ H => by
  rintro ⟨Z, F0, F, δ, o, st, hg, q⟩
  cases hg
  exact q σ F H (Ex.refl F) st
theorem pms_never : PMS X W st (fun _ => none) := PS.mono ps_never fun D σ H => by
  rintro ⟨Z, F0, F, δ, o, st, hg, q⟩
  cases hg
theorem pmss_never {sts : List Stmt} : PMSs X W sts (fun _ => none) := PSs.mono pss_never fun D σ H => by
  rintro ⟨Z, F0, F, δ, o, st, hg, q⟩
  cases hg
def retO (f : M D) : S → Option Out := fun δ => match f δ with
  | some (d, δ') => some (.rt d δ')
  | none => none
theorem pms_ret (he : PM X e f) : PMS X W (.Return (some e) pos) (retO f) := PS.mono (ps_ret he) fun D σ H => by
  rintro ⟨Z, F0, F, δ, o, st, hg, q⟩
  unfold retO at hg
  split at hg
  · rename_i d δ' e1
    cases hg
    exact ⟨Z, F0, F, δ, d, δ', st, e1, fun v F' H' ex st' r => q v σ F' H' ex st' r⟩
  · cases hg
theorem pms_retN : PMS X W (.Return none pos) (fun δ => some (.rt .none δ)) := PS.mono ps_retN fun D σ H => by
  rintro ⟨Z, F0, F, δ, o, st, hg, q⟩
  cases hg
  exact q _ σ F H (Ex.refl F) st .non
def ifO (c : M Bool) (g h : S → Option Out) : S → Option Out := fun δ => match c δ with
  | some (true, δ') => g δ'
  | some (false, δ') => h δ'
  | none => none
theorem pms_if {c : Expr} {a b : List Stmt} {fc : M Bool} (hc : PMT X c fc) (ha : PMSs X W a g) (hb : PMSs X W b h) : PMS X W (.If c a b pos) (ifO fc g h) := PS.mono (ps_if hc ha hb) fun D σ H => by
  rintro ⟨Z, F0, F, δ, o, st, hg, q⟩
  unfold ifO at hg
  split at hg
  · rename_i δ' e1
    exact ⟨Z, F0, F, δ, true, δ', st, e1, fun F' H' ex st' => iteT ⟨Z, F0, F', δ', o, st', hg, q.mono ex⟩⟩
  · rename_i δ' e1
    exact ⟨Z, F0, F, δ, false, δ', st, e1, fun F' H' ex st' => iteF ⟨Z, F0, F', δ', o, st', hg, q.mono ex⟩⟩
  · cases hg
def dropO (f : M D) : S → Option Out := fun δ => match f δ with
  | some (_, δ') => some (.nx δ')
  | none => none
theorem pms_expr (he : PM X e f) (hs : swapsWith e none pos.line X.env = pure false := by rfl) : PMS X W (.Expr e pos) (dropO f) := PS.mono (ps_expr he hs) fun D σ H => by
  rintro ⟨Z, F0, F, δ, o, st, hg, q⟩
  unfold dropO at hg
  split at hg
  · rename_i d δ' e1
    cases hg
    exact ⟨Z, F0, F, δ, d, δ', st, e1, fun v F' H' ex st' r => q σ F' H' ex st'⟩
  · cases hg

/-! ### targets -/
def putS (i : Nat) : D → S → Option S := fun d δ => some (δ.set i (.im d))
theorem pmg_name {i : Nat} {x : Str} (hN : X.N.Nodup) (hi : X.N[i]? = some x := by rfl) (hx : Loc X.env.scope x := by first | exact Or.inl rfl | exact Or.inr rfl) (hf : X.fn x = true ∨ X.env.scope.names.lookup x = some .local := by first | exact .inl rfl | exact .inr rfl | assumption) : PMG X (.Name x pos) (putS i) :=
  PG.mono (pg_name hN hi hx hf) fun v σ H Q => by
    rintro ⟨Z, F0, F, δ, d, δ', st, r, ht, q⟩
    cases ht
    exact q _ F H (Ex.refl F) (st.put r)
def gsNil : List D → S → Option S := fun ds δ => match ds with
  | [] => some δ
  | _ => none
def gsCons (t : D → S → Option S) (u : List D → S → Option S) : List D → S → Option S := fun ds δ => match ds with
  | d :: r => (t d δ).bind fun δ' => u r δ'
  | [] => none
theorem pmgs_nil : PMGs X [] gsNil := PGs.mono pgs_nil fun v σ H Q => by
  rintro ⟨Z, F0, F, δ, d, δ', st, r, ht, q⟩
  cases r with
  | nil => cases ht; exact ⟨rfl, q σ F H (Ex.refl F) st⟩
  | cons _ _ => cases ht
theorem pmgs_cons {es : List Expr} {t : D → S → Option S} {u : List D → S → Option S} (h1 : PMG X e t) (h2 : PMGs X es u)
    (hs : (assignEach (e :: es) X.env).map (·.2) = assign e X.env :: (assignEach es X.env).map (·.2) := by rfl) : PMGs X (e :: es) (gsCons t u) := PGs.mono (pgs_cons h1 h2 hs) fun v σ H Q => by
  rintro ⟨Z, F0, F, δ, d, δ', st, r, ht, q⟩
  cases r with
  | nil => cases ht
  | cons r1 r2 =>
    rename_i v1 vs d1 ds
    unfold gsCons at ht
    cases e1 : t d1 δ with
    | none => simp only [e1] at ht; cases ht
    | some δ1 =>
      simp only [e1] at ht
      exact ⟨_, _, rfl, Z, F0, F, δ, _, δ1, st, r1, e1, fun σ' F' H' ex st' => ⟨Z, F0, F', δ1, _, δ', st', r2.mono ex, ht, fun σ2 F2 H2 ex2 st2 => q σ2 F2 H2 (ex.trans ex2) st2⟩⟩
def tupT (u : List D → S → Option S) : D → S → Option S := fun d δ => match d with
  | .tuple ds => u ds δ
  | _ => none
theorem gs_len {u : List D → S → Option S} : True := trivial
/-- (a, b, ..) = a tuple -/
theorem pmg_tup {es : List Expr} {k : Nat} {u : List D → S → Option S} {n : Nat} (hc : X.calm = true) (h : PMGs X es u) (hu : ∀ ds δ δ', u ds δ = some δ' → ds.length = n)
    (hn : (assignEach es X.env).length = n := by rfl) (hst : (assignEach es X.env).findIdx? (·.1) = none := by rfl) : PMG X (.Tuple es k pos) (tupT u) := PG.mono (pg_tup hc h hn hst) fun v σ H Q => by
  rintro ⟨Z, F0, F, δ, d, δ', st, r, ht, q⟩
  cases r with
  | tup hs ha => exact ⟨_, _, rfl, ex_t st.ef hs, (by rw [ha.length]; exact hu _ _ _ ht), Z, F0, F, δ, _, δ', st, ha, ht, q⟩
  | _ => cases ht
theorem gsNil_len {ds : List D} {δ δ' : S} (h : gsNil ds δ = some δ') : ds.length = 0 := by
  cases ds with
  | nil => rfl
  | cons _ _ => cases h
theorem gsCons_len {t : D → S → Option S} {u : List D → S → Option S} {n : Nat} (hu : ∀ ds δ δ', u ds δ = some δ' → ds.length = n) {ds : List D} {δ δ' : S} (h : gsCons t u ds δ = some δ') : ds.length = n + 1 := by
  cases ds with
  | nil => cases h
  | cons d r =>
    unfold gsCons at h
    cases e1 : t d δ with
    | none => simp only [e1] at h; cases h
    | some δ1 => simp only [e1] at h; simp [hu r δ1 δ' h]
def asgO (f : M D) (t : D → S → Option S) : S → Option Out := fun δ => match f δ with
  | some (d, δ') => match t d δ' with
    | some δ2 => some (.nx δ2)
    | none => none
  | none => none
theorem tMS_asg {w : World} {K : PySem.W.Frag} {t : D → S → Option S} {te : TE} {tg : TG} (h1 : ∀ σ H Q, tM w K f σ H Q → te σ H Q) (h2 : ∀ v σ H Q, tMG w K t v σ H Q → tg v σ H Q) (D : Ends) (σ : L2.St) (H : Hp) (h : tMS w K W (asgO f t) D σ H) : tAsg te tg D σ H := by
  obtain ⟨Z, F0, F, δ, o, st, hg, q⟩ := h
  unfold asgO at hg
  split at hg
  · rename_i d δ' e1
    split at hg
    · rename_i δ2 e2
      cases hg
      exact h1 _ _ _ ⟨Z, F0, F, δ, d, δ', st, e1, fun v F' H' ex st' r => h2 _ _ _ _ ⟨Z, F0, F', δ', d, δ2, st', r, e2, fun σ' F2 H2 ex2 st2 => q σ' F2 H2 (ex.trans ex2) st2⟩⟩
    · cases hg
  · cases hg
theorem pms_asg {tg : Expr} {t : D → S → Option S} (he : PM X e f) (hg : PMG X tg t) (hs : swapsWithSole [tg] e pos.line X.env = pure false := by rfl) (hw : swappedStores [tg] e X.env = pure none := by rfl)
    (h1 : (assignEach [tg] X.env).map (·.2) = [assign tg X.env] := by rfl) : PMS X W (.Assign [tg] e pos) (asgO f t) := PS.mono (ps_asg he hg hs hw h1) (tMS_asg (fun _ _ _ q => q) fun _ _ _ _ q => q)
theorem tMG_name {w : World} {K : PySem.W.Frag} {i : Nat} (v : V) (σ : L2.St) (H : Hp) (Q : L2.St → Hp → Prop) (h : tMG w K (putS i) v σ H Q) : gName i v σ H Q := by
  obtain ⟨Z, F0, F, δ, d, δ', st, r, ht, q⟩ := h
  cases ht
  exact q _ F H (Ex.refl F) (st.put r)
theorem pms_set {i : Nat} {x : Str} {pos' : Pos} (hN : X.N.Nodup) (he : PM X e f) (hi : X.N[i]? = some x := by rfl) (hx : Loc X.env.scope x := by first | exact Or.inl rfl | exact Or.inr rfl) (hs : swapsWith e (some (.Name x pos')) pos.line X.env = pure false := by rfl)
    (hf : X.fn x = true ∨ X.env.scope.names.lookup x = some .local := by first | exact .inl rfl | exact .inr rfl | assumption) : PMS X W (.Assign [.Name x pos'] e pos) (asgO f (putS i)) :=
  PS.mono (ps_set hN hi hx he hs hf) (tMS_asg (fun _ _ _ q => q) tMG_name)
/-- a, b = x, y of plain locals -/
def parO (f : M (List D)) (i j : Nat) : S → Option Out := fun δ => match f δ with
  | some ([x, y], δ') => some (.nx ((δ'.set i (.im x)).set j (.im y)))
  | _ => none
theorem pms_par {i j : Nat} {x y : Str} {a b : Expr} {fl : M (List D)} {px py pt : Pos} {kt k2 pt2} (hc : X.calm = true) (hN : X.N.Nodup) (ha : PMA X [a, b] fl) (hi : X.N[i]? = some x := by rfl) (hj : X.N[j]? = some y := by rfl) (hij : i ≠ j := by decide)
    (hx : X.env.scope.names.lookup x = some .local := by rfl) (hy : X.env.scope.names.lookup y = some .local := by rfl)
    (hw : swappedStores [.Tuple [.Name x px, .Name y py] kt pt] (.Tuple [a, b] k2 pt2) X.env = pure (some [x, y]) := by rfl)
    (hs : swapsWithSole [.Tuple [.Name x px, .Name y py] kt pt] (.Tuple [a, b] k2 pt2) pos.line X.env = pure false := by rfl) :
    PMS X W (.Assign [.Tuple [.Name x px, .Name y py] kt pt] (.Tuple [a, b] k2 pt2) pos) (parO fl i j) := PS.mono (ps_par hc hN hi hj hij hx hy ha hw hs) fun D σ H => by
  rintro ⟨Z, F0, F, δ, o, st, hg, q⟩
  unfold parO at hg
  split at hg
  · rename_i x1 y1 δ' e1
    cases hg
    refine ⟨Z, F0, F, δ, _, δ', st, e1, fun vs F' H' ex st' r => ?_⟩
    cases r with
    | cons r1 r2 =>
      cases r2 with
      | cons r2 r3 =>
        cases r3
        exact ⟨_, _, rfl, q _ F' H' ex ((st'.put r1).put r2)⟩
  · cases hg
/-- x op= e, by data -/
def IpD (w : World) (K : PySem.W.Frag) (r : TIp) (op : D → D → Option D) : Prop := OpD w K r op
def augO (i : Nat) (f : M D) (op : D → D → Option D) : S → Option Out := fun δ => match slot i δ with
  | some x => match f δ with
    | some (y, δ') => match op x y with
      | some z => some (.nx (δ'.set i (.im z)))
      | none => none
    | none => none
  | none => none
theorem pms_aug {i : Nat} {x : Str} {op : Operator} {ti : TIp} {opd : D → D → Option D} {pos' : Pos} (hN : X.N.Nodup) (he : PM X e f) (ho : PIp X op ti) (hd : OpD X.w X.K ti opd) (hi : X.N[i]? = some x := by rfl) (hx : Loc X.env.scope x := by first | exact Or.inl rfl | exact Or.inr rfl)
    (hf : X.fn x = true ∨ X.env.scope.names.lookup x = some .local := by first | exact .inl rfl | exact .inr rfl | assumption) : PMS X W (.AugAssign (.Name x pos') op e pos) (augO i f opd) := PS.mono (ps_aug hN hi hx he ho hf) fun D σ H => by
  rintro ⟨Z, F0, F, δ, o, st, hg, q⟩
  unfold augO at hg
  cases e0 : slot i δ with
  | none => rw [e0] at hg; cases hg
  | some x0 =>
    rw [e0] at hg
    dsimp only at hg
    split at hg
    · rename_i y δ' e1
      split at hg
      · rename_i z e2
        cases hg
        unfold slot at e0
        split at e0
        · rename_i d' e3
          cases e0
          obtain ⟨fp, k1, k2, k3⟩ := st.sl
          obtain ⟨v, e4, r⟩ := k1 i _ e3
          refine ⟨v, ?_, Z, F0, F, δ, y, δ', st, e1, fun v1 F1 H1 ex st1 r1 => ?_⟩
          · cases e5 : σ[i]? with
            | none => rw [e5] at e4; cases e4
            | some o => rw [e5] at e4; exact congrArg some e4
          · exact hd F1 H1 v v1 _ y z _ st1.ef (r.mono ex) r1 e2 fun v2 F2 H2 gw r2 => q _ F2 H2 (ex.trans gw.f) ((st1.grow gw).put r2)
        · cases e0
      · cases hg
    · cases hg
end

/-! ### what is walked -/
structure WalkD (w : World) (K : PySem.W.Frag) (J : It) (F : Hp) (ds : List D) : Prop where
  go : ∀ i H, i < ds.length → Ex F H → J.go i H
  stop : ∀ H, Ex F H → J.stop ds.length H
  yld : ∀ i d F' H x H', ds[i]? = some d → Ex F F' → Ex F' H → J.yld i H x H' → ∃ F'', Gw F' H F'' H' ∧ Rp w K F'' x d
def tMI (w : World) (K : PySem.W.Frag) (f : M (List D)) : TI := fun σ H R => ∃ Z F0 F δ ds δ', StR w K Z F0 δ σ F H ∧ f δ = some (ds, δ') ∧
  ∀ J F' H', Ex F F' → StR w K Z F0 δ' σ F' H' → WalkD w K J F' ds → R J H'
abbrev PMI (X : Cx) (tg it : Expr) (f : M (List D)) : Prop := PI X tg it (tMI X.w X.K f)
abbrev PXI (X : Cx) (tg it : Expr) (f : S → Option (List D)) : Prop := PMI X tg it (pur f)
section
variable {X : Cx} {tg l : Expr} {f : M D}
theorem walk_list {w : World} {K : PySem.W.Frag} {F : Hp} {a : Addr} {xs : List V} {ds : List D} (h : SqL K F a xs) (r : RpAll w K F xs ds) : WalkD w K (Itl K a) F ds where
  go := fun i H hi e => by
    have hx : i < xs.length := by rw [r.length]; exact hi
    exact ⟨xs, xs[i], ex_l e h, List.getElem?_eq_getElem hx⟩
  stop := fun H e => ⟨xs, ex_l e h, by rw [r.length]; exact Nat.le_refl _⟩
  yld := fun i d F' H x H' hd e1 e2 y => by
    obtain ⟨rfl, y⟩ := y
    obtain ⟨u, h1, h2⟩ := r.get hd
    have := y xs (ex_l (e1.trans e2) h)
    rw [h1] at this
    cases this
    exact ⟨F', Gw.refl e2, h2.mono e1⟩
theorem walk_tup {w : World} {K : PySem.W.Frag} {F : Hp} {a : Addr} {xs : List V} {ds : List D} (h : SqT K F a xs) (r : RpAll w K F xs ds) : WalkD w K (Itt K a) F ds where
  go := fun i H hi e => by
    have hx : i < xs.length := by rw [r.length]; exact hi
    exact ⟨xs, xs[i], ex_t e h, List.getElem?_eq_getElem hx⟩
  stop := fun H e => ⟨xs, ex_t e h, by rw [r.length]; exact Nat.le_refl _⟩
  yld := fun i d F' H x H' hd e1 e2 y => by
    obtain ⟨rfl, y⟩ := y
    obtain ⟨u, h1, h2⟩ := r.get hd
    have := y xs (ex_t (e1.trans e2) h)
    rw [h1] at this
    cases this
    exact ⟨F', Gw.refl e2, h2.mono e1⟩
def sgn (c : Nat) : D := .str ⟨#[c]⟩
theorem walk_str {w : World} {K : PySem.W.Frag} {F : Hp} {z : Str} : WalkD w K (Its z) F (z.cps.toList.map sgn) := by
  have hlen : (z.cps.toList.map sgn).length = z.cps.size := by simp
  refine ⟨fun i H hi e => ?_, fun H e => ?_, fun i d F' H x H' hd e1 e2 y => ?_⟩
  · rw [hlen] at hi; exact hi
  · rw [hlen]; exact Nat.le_refl _
  · obtain ⟨rfl, c, h1, rfl⟩ := y
    rw [List.getElem?_map] at hd
    have : z.cps.toList[i]? = some c := by simpa using h1
    rw [this] at hd
    cases hd
    exact ⟨F', Gw.refl e2, .str _⟩
def iterD : D → Option (List D)
  | .list ds => some ds
  | .tuple ds => some ds
  | .str z => some (z.cps.toList.map sgn)
  | _ => none
theorem PI.or {tg it : Expr} {t t' : TI} (h : PI X tg it t) (h' : PI X tg it t') : PI X tg it (fun σ H R => t σ H R ∨ t' σ H R) := ⟨fun pins s σ H R I q => q.elim (h.run pins s σ H R I) (h'.run pins s σ H R I)⟩
def mIter (f : M D) : M (List D) := bnd f fun d => lft (iterD d)
def pIter (f : S → Option D) : S → Option (List D) := fun δ => (f δ).bind iterD
theorem mIter_pur {f : S → Option D} : mIter (pur f) = pur (pIter f) := by
  funext δ; unfold mIter bnd pur lft pIter; dsimp only; cases h : f δ <;> rfl
theorem pmi_seq (h : PM X l f) : PMI X tg l (mIter f) := PI.mono (PI.or (pi_list h) (PI.or (pi_tup h) (pi_str h))) fun σ H R => by
  rintro ⟨Z, F0, F, δ, ds, δ', st, hf, q⟩
  obtain ⟨d, δ1, h1, hf⟩ := bnd_some hf
  obtain ⟨hw, rfl⟩ := lft_some hf
  cases d with
  | list xs =>
    cases hw
    refine .inl ⟨Z, F0, F, δ, _, _, st, h1, fun v F' H' ex st' r => ?_⟩
    cases r with
    | lst hs ha => exact ⟨_, rfl, ⟨_, ex_l st'.ef (SqL.of hs)⟩, q _ F' H' ex st' (walk_list (SqL.of hs) ha)⟩
  | tuple xs =>
    cases hw
    refine .inr (.inl ⟨Z, F0, F, δ, _, _, st, h1, fun v F' H' ex st' r => ?_⟩)
    cases r with
    | tup hs ha => exact ⟨_, rfl, ⟨_, ex_t st'.ef hs⟩, q _ F' H' ex st' (walk_tup hs ha)⟩
  | str z =>
    cases hw
    refine .inr (.inr ⟨Z, F0, F, δ, _, _, st, h1, fun v F' H' ex st' r => ?_⟩)
    cases r with
    | str _ => exact ⟨_, rfl, q _ F' H' ex st' walk_str⟩
  | _ => cases hw
theorem PMI.cast {it : Expr} {f g : M (List D)} (h : PMI X tg it f) (q : f = g) : PMI X tg it g := q ▸ h
theorem pxi_seq {g : S → Option D} (h : PX X l g) : PXI X tg l (pIter g) := (pmi_seq h).cast mIter_pur
theorem walk_range {w : World} {K : PySem.W.Frag} {F : Hp} {lo : Int} {n : Nat} : WalkD w K (Itr lo n) F ((List.range n).map fun i : Nat => (.int (lo + i) : D)) := by
  have hlen : ((List.range n).map fun i : Nat => (.int (lo + i) : D)).length = n := by simp
  refine ⟨fun i H hi e => ?_, fun H e => ?_, fun i d F' H x H' hd e1 e2 y => ?_⟩
  · rw [hlen] at hi; exact hi
  · rw [hlen]; exact Nat.le_refl _
  · obtain ⟨rfl, rfl⟩ := y
    rw [List.getElem?_map] at hd
    have hi : i < n := by
      have : (List.range n)[i]? ≠ none := fun z => by rw [z] at hd; cases hd
      rw [Ne, List.getElem?_eq_none_iff, List.length_range] at this
      omega
    rw [List.getElem?_range hi] at hd
    cases hd
    exact ⟨F', Gw.refl e2, .int _⟩
/-- range(a), range(a, b) -/
def range1D : List D → Option (List D)
  | [.int j] => if -(2 ^ 62) ≤ j ∧ j < 2 ^ 62 then some ((List.range j.toNat).map fun i : Nat => (.int (0 + (i : Int)) : D)) else none
  | _ => none
def range2D : List D → Option (List D)
  | [.int i, .int j] => if -(2 ^ 62) ≤ i ∧ i < 2 ^ 62 ∧ -(2 ^ 62) ≤ j ∧ j < 2 ^ 62 then some ((List.range (j - i).toNat).map fun k : Nat => (.int (i + (k : Int)) : D)) else none
  | _ => none
def mLst (op : List D → Option (List D)) (f : M (List D)) : M (List D) := bnd f fun d => lft (op d)
def pLst (op : List D → Option (List D)) (f : S → Option (List D)) : S → Option (List D) := fun δ => (f δ).bind op
theorem mLst_pur {op : List D → Option (List D)} {f : S → Option (List D)} : mLst op (pur f) = pur (pLst op f) := by
  funext δ; unfold mLst bnd pur lft pLst; dsimp only; cases h : f δ <;> rfl
theorem pmi_range1 {a : Expr} {fl : M (List D)} {p pos : Pos} (hm : X.mg "range" = none) (ha : PMA X [a] fl) (hg : Gl X "range" := by rfl) (hs : starEach [a] X.env = [(false, eval a X.env)] := by rfl) : PMI X tg (.Call (.Name "range" p) [a] [] pos) (mLst range1D fl) :=
  PI.mono (pi_range1 hg hm ha hs) fun σ H R => by
    rintro ⟨Z, F0, F, δ, ds, δ', st, hf, q⟩
    obtain ⟨d, δ1, h1, hf⟩ := bnd_some hf
    obtain ⟨hw, rfl⟩ := lft_some hf
    refine ⟨Z, F0, F, δ, d, _, st, h1, fun vs F' H' ex st' r => ?_⟩
    unfold range1D at hw
    split at hw
    · split at hw
      · rename_i hb
        cases hw
        cases r with
        | cons r1 r2 => cases r1; cases r2; exact ⟨_, rfl, hb.1, hb.2, q _ F' H' ex st' walk_range⟩
      · cases hw
    · cases hw
theorem pmi_range2 {a b : Expr} {fl : M (List D)} {p pos : Pos} (hm : X.mg "range" = none) (ha : PMA X [a, b] fl) (hg : Gl X "range" := by rfl) (hs : starEach [a, b] X.env = [(false, eval a X.env), (false, eval b X.env)] := by rfl) (hs2 : starEach [b] X.env = [(false, eval b X.env)] := by rfl) :
    PMI X tg (.Call (.Name "range" p) [a, b] [] pos) (mLst range2D fl) :=
  PI.mono (pi_range2 hg hm ha hs hs2) fun σ H R => by
    rintro ⟨Z, F0, F, δ, ds, δ', st, hf, q⟩
    obtain ⟨d, δ1, h1, hf⟩ := bnd_some hf
    obtain ⟨hw, rfl⟩ := lft_some hf
    refine ⟨Z, F0, F, δ, d, _, st, h1, fun vs F' H' ex st' r => ?_⟩
    unfold range2D at hw
    split at hw
    · split at hw
      · rename_i hb
        cases hw
        cases r with
        | cons r1 r2 => cases r1; cases r2 with
          | cons r1 r2 => cases r1; cases r2; exact ⟨_, _, rfl, hb, q _ F' H' ex st' walk_range⟩
      · cases hw
    · cases hw
theorem pxi_range1 {a : Expr} {gl : S → Option (List D)} {p pos : Pos} (hm : X.mg "range" = none) (ha : PXA X [a] gl) (hg : Gl X "range" := by rfl) (hs : starEach [a] X.env = [(false, eval a X.env)] := by rfl) : PXI X tg (.Call (.Name "range" p) [a] [] pos) (pLst range1D gl) :=
  (pmi_range1 hm ha hg hs).cast mLst_pur
theorem pxi_range2 {a b : Expr} {gl : S → Option (List D)} {p pos : Pos} (hm : X.mg "range" = none) (ha : PXA X [a, b] gl) (hg : Gl X "range" := by rfl) (hs : starEach [a, b] X.env = [(false, eval a X.env), (false, eval b X.env)] := by rfl) (hs2 : starEach [b] X.env = [(false, eval b X.env)] := by rfl) :
    PXI X tg (.Call (.Name "range" p) [a, b] [] pos) (pLst range2D gl) := (pmi_range2 hm ha hg hs hs2).cast mLst_pur

/-! ### for -/
def forD (t : D → S → Option S) (g : S → Option Out) : List D → S → Option Out
  | [], δ => some (.nx δ)
  | d :: ds, δ => match t d δ with
    | none => none
    | some δ1 => match g δ1 with
      | some (.nx δ2) => forD t g ds δ2
      | some (.ct δ2) => forD t g ds δ2
      | some (.bk δ2) => some (.nx δ2)
      | some (.rt d δ') => some (.rt d δ')
      | some (.er c δ') => some (.er c δ')
      | none => none
def forO (fi : M (List D)) (t : D → S → Option S) (g : S → Option Out) : S → Option Out := fun δ => match fi δ with
  | some (ds, δ') => forD t g ds δ'
  | none => none
variable {W : WX} {it : Expr} {fi : M (List D)} {t : D → S → Option S} {g : S → Option Out} {body : List Stmt} {pos : Pos}
theorem pms_for (hp : PassesOwn (model X.prog X.w) X.A X.env X.xe) (hc : X.calm = true) (hi : PMI X tg it fi) (ht : PMG X tg t) (hb : PMSs X W body g)
    (hs : ∀ x, foldedSetIterable it X.env x = pure x := by intro _; rfl) : PMS X W (.For tg it body [] pos) (forO fi t g) := PS.mono (ps_for hp hc hi ht hb hs) fun Dn σ H => by
  rintro ⟨Z, F0, F, δ, o, st, hg, q⟩
  unfold forO at hg
  split at hg
  · rename_i ds δ' e1
    refine ⟨Z, F0, F, δ, ds, δ', st, e1, fun J F1 H1 ex1 st1 wk => ?_⟩
    have q1 := q.mono ex1
    refine ⟨fun i m σ H => ∃ F2 δ2, StR X.w X.K Z F0 δ2 σ F2 H ∧ Ex F1 F2 ∧ m = ds.length - i ∧ i ≤ ds.length ∧ forD t g (ds.drop i) δ2 = some o, ⟨ds.length, F1, δ', st1, Ex.refl F1, by simp, Nat.zero_le _, hg⟩, ?_⟩
    rintro i m σ2 H2 ⟨F2, δ2, st2, ex2, rfl, hi, hl⟩
    by_cases hlt : i < ds.length
    · refine .inr ⟨wk.go i H2 hlt (ex2.trans st2.ef), fun σ H => ∃ F2 δ2, StR X.w X.K Z F0 δ2 σ F2 H ∧ Ex F1 F2 ∧ forD t g (ds.drop (i + 1)) δ2 = some o, fun σ' H' ⟨F3, δ3, s3, x3, l3⟩ => ⟨ds.length - (i + 1), by omega, F3, δ3, s3, x3, rfl, by omega, l3⟩, fun x H' y => ?_⟩
      have hd : ds.drop i = ds[i] :: ds.drop (i + 1) := List.drop_eq_getElem_cons hlt
      obtain ⟨F3, gw, r⟩ := wk.yld i ds[i] F2 H2 x H' (List.getElem?_eq_getElem hlt) ex2 st2.ef y
      rw [hd] at hl
      unfold forD at hl
      split at hl
      · cases hl
      · rename_i δ4 e4
        refine ⟨Z, F0, F3, δ2, ds[i], δ4, st2.grow gw, r, e4, fun σ5 F5 H5 ex5 st5 => ?_⟩
        have exA : Ex F1 F5 := (ex2.trans gw.f).trans ex5
        split at hl
        · rename_i δ6 e6
          exact ⟨Z, F0, F5, δ4, _, st5, e6, fun σ' F' H' ex' st' => ⟨F', δ6, st', exA.trans ex', hl⟩⟩
        · rename_i δ6 e6
          exact ⟨Z, F0, F5, δ4, _, st5, e6, fun σ' F' H' ex' st' => ⟨F', δ6, st', exA.trans ex', hl⟩⟩
        · rename_i δ6 e6
          cases hl
          exact ⟨Z, F0, F5, δ4, _, st5, e6, fun σ' F' H' ex' st' => q1 σ' F' H' (exA.trans ex') st'⟩
        · rename_i d6 e6
          cases hl
          exact ⟨Z, F0, F5, δ4, _, st5, e6, fun v σ' F' H' ex' st' => q1 v σ' F' H' (exA.trans ex') st'⟩
        · rename_i d6 e6
          cases hl
          exact ⟨Z, F0, F5, δ4, _, st5, e6, fun σ' F' H' ex' st' => q1 σ' F' H' (exA.trans ex') st'⟩
        · cases hl
    · have e : i = ds.length := by omega
      subst e
      rw [List.drop_length] at hl
      cases hl
      exact .inl ⟨wk.stop H2 (ex2.trans st2.ef), q1 σ2 F2 H2 ex2 st2⟩
  · cases hg

/-! ### while -/
def whileD (c : M Bool) (g : S → Option Out) : Nat → S → Option Out
  | 0, _ => none
  | n + 1, δ => match c δ with
    | some (false, δ1) => some (.nx δ1)
    | some (true, δ1) => match g δ1 with
      | some (.nx δ2) => whileD c g n δ2
      | some (.ct δ2) => whileD c g n δ2
      | some (.bk δ2) => some (.nx δ2)
      | some (.rt d δ') => some (.rt d δ')
      | some (.er c δ') => some (.er c δ')
      | none => none
    | none => none
theorem pms_while {c : Expr} {fc : M Bool} (n : Nat) (hp : PassesOwn (model X.prog X.w) X.A X.env X.xe) (hc : PMT X c fc) (hb : PMSs X W body g) : PMS X W (.While c body [] pos) (whileD fc g n) := PS.mono (ps_while hp hc hb) fun Dn σ H => by
  rintro ⟨Z, F0, F, δ, o, st, hg, q⟩
  refine ⟨fun m σ H => ∃ F2 δ2, StR X.w X.K Z F0 δ2 σ F2 H ∧ Ex F F2 ∧ whileD fc g m δ2 = some o, ⟨n, F, δ, st, Ex.refl F, hg⟩, ?_⟩
  rintro m σ2 H2 ⟨F2, δ2, st2, ex2, hl⟩
  cases m with
  | zero => cases hl
  | succ m =>
    unfold whileD at hl
    split at hl
    · rename_i δ3 e3
      cases hl
      exact ⟨Z, F0, F2, δ2, false, δ3, st2, e3, fun F' H' ex' st' => iteF (q σ2 F' H' (ex2.trans ex') st')⟩
    · rename_i δ3 e3
      refine ⟨Z, F0, F2, δ2, true, δ3, st2, e3, fun F3 H3 ex3 st3 => iteT ⟨fun σ H => ∃ F2 δ2, StR X.w X.K Z F0 δ2 σ F2 H ∧ Ex F F2 ∧ whileD fc g m δ2 = some o, fun σ' H' h => ⟨m, Nat.lt_succ_self m, h⟩, ?_⟩⟩
      have exA : Ex F F3 := ex2.trans ex3
      split at hl
      · rename_i δ6 e6
        exact ⟨Z, F0, F3, δ3, _, st3, e6, fun σ' F' H' ex' st' => ⟨F', δ6, st', exA.trans ex', hl⟩⟩
      · rename_i δ6 e6
        exact ⟨Z, F0, F3, δ3, _, st3, e6, fun σ' F' H' ex' st' => ⟨F', δ6, st', exA.trans ex', hl⟩⟩
      · rename_i δ6 e6
        cases hl
        exact ⟨Z, F0, F3, δ3, _, st3, e6, fun σ' F' H' ex' st' => q σ' F' H' (exA.trans ex') st'⟩
      · rename_i d6 e6
        cases hl
        exact ⟨Z, F0, F3, δ3, _, st3, e6, fun v σ' F' H' ex' st' => q v σ' F' H' (exA.trans ex') st'⟩
      · rename_i d6 e6
        cases hl
        exact ⟨Z, F0, F3, δ3, _, st3, e6, fun σ' F' H' ex' st' => q σ' F' H' (exA.trans ex') st'⟩
      · cases hl
    · cases hl
end
end Pf

set_option Elab.async false
set_option linter.all false
set_option maxRecDepth 100000
set_option maxHeartbeats 4000000
namespace Pf
open PySem L2

/-! ### an object on the way: allotted, changed, frozen -/
section
variable {w : World} {K : PySem.W.Frag} {F F' H H' Z F0 : Hp} {δ δ' : S} {σ σ' : L2.St} {p : Addr} {o o' : HO}
theorem StR.alloc (h : StR w K Z F0 δ σ F H) (hp : H p = none) : StR w K (upd Z p o) F0 δ σ F (upd H p o) := by
  obtain ⟨fp, h1, h2, h3⟩ := h.sl
  have hF : F p = none := h.ef.back hp
  have hne : ∀ i q, q ∈ fp i → q ≠ p := fun i q hq z => (h2 i q hq).2.2 (z ▸ hp)
  refine ⟨h.ef.trans (Ex.new hp), h.e0, h.ez.upd2, fun q q1 q2 => ?_, h.len, fp, fun i s e => (h1 i s e).mono (Ex.refl F) fun q hq => upd_ne (hne i q hq), fun i q hq => ?_, h3⟩
  · have : q ≠ p := fun z => q1 (z ▸ hF)
    rw [upd_ne this] at q2
    exact h.fz q q1 q2
  · obtain ⟨a, b, c⟩ := h2 i q hq
    rw [upd_ne (hne i q hq), upd_ne (hne i q hq)]
    exact ⟨a, b, c⟩
theorem StR.at (h : StR w K (upd Z p o) F0 δ σ F H) : H p = some o := h.ez p o upd_same
theorem StR.noF (h : StR w K (upd Z p o) F0 δ σ F H) (h0 : F0 p = none) : F p = none := by
  cases e : F p with
  | none => rfl
  | some u => exact absurd h0 (h.fz p (by rw [e]; simp) (by rw [upd_same]; simp))
theorem StR.store (h : StR w K (upd Z p o) F0 δ σ F H) (h0 : F0 p = none) : StR w K (upd Z p o') F0 δ σ F (upd H p o') := by
  obtain ⟨fp, h1, h2, h3⟩ := h.sl
  have hF : F p = none := h.noF h0
  have hne : ∀ i q, q ∈ fp i → q ≠ p := fun i q hq z => by
    have := (h2 i q hq).2.1
    rw [z, upd_same] at this
    cases this
  refine ⟨fun a u e => ?_, h.e0, fun a u e => ?_, fun q q1 q2 => ?_, h.len, fp, fun i s e => (h1 i s e).mono (Ex.refl F) fun q hq => upd_ne (hne i q hq), fun i q hq => ?_, h3⟩
  · rw [upd_ne (ne_of_none e hF)]; exact h.ef a u e
  · by_cases z : a = p
    · subst z; rw [upd_same] at e ⊢; exact e
    · rw [upd_ne z] at e ⊢; exact h.ez a u (by rw [upd_ne z]; exact e)
  · have z : q ≠ p := fun z => q1 (z ▸ hF)
    rw [upd_ne z] at q2
    exact h.fz q q1 (by rw [upd_ne z]; exact q2)
  · obtain ⟨a, b, c⟩ := h2 i q hq
    rw [upd_ne (hne i q hq)] at b
    rw [upd_ne (hne i q hq), upd_ne (hne i q hq)]
    exact ⟨a, b, c⟩
theorem StR.freeze (h : StR w K (upd Z p o) F0 δ σ F H) (h0 : F0 p = none) (hz : Z p = none) : StR w K Z F0 δ σ (upd F p o) H := by
  obtain ⟨fp, h1, h2, h3⟩ := h.sl
  have hF : F p = none := h.noF h0
  have hne : ∀ i q, q ∈ fp i → q ≠ p := fun i q hq z => by
    have := (h2 i q hq).2.1
    rw [z, upd_same] at this
    cases this
  refine ⟨fun a u e => ?_, h.e0.trans (Ex.new hF), (Ex.new hz).trans h.ez, fun q q1 q2 => ?_, h.len, fp, fun i s e => (h1 i s e).mono (Ex.new hF) fun q hq => rfl, fun i q hq => ?_, h3⟩
  · by_cases z : a = p
    · subst z; rw [upd_same] at e; rw [← e]; exact h.at
    · rw [upd_ne z] at e; exact h.ef a u e
  · have z : q ≠ p := fun z => q2 (z ▸ hz)
    rw [upd_ne z] at q1
    exact h.fz q q1 (by rw [upd_ne z]; exact q2)
  · obtain ⟨a, b, c⟩ := h2 i q hq
    rw [upd_ne (hne i q hq)] at b
    rw [upd_ne (hne i q hq)]
    exact ⟨a, b, c⟩

/-! ### a block's own slots -/
def wipeS (δ : S) : List Nat → S
  | [] => δ
  | v :: vs => (wipeS δ vs).set v .un
theorem wipeS_len (δ : S) : ∀ vs, (wipeS δ vs).length = δ.length
  | [] => rfl
  | v :: vs => by unfold wipeS; rw [List.length_set, wipeS_len δ vs]
theorem wipeS_get : ∀ (vs : List Nat) (i : Nat) (s : Sl), (wipeS δ vs)[i]? = some s → (i ∈ vs ∧ s = .un) ∨ (i ∉ vs ∧ δ[i]? = some s)
  | [], i, s, h => .inr ⟨by simp, h⟩
  | v :: vs, i, s, h => by
    unfold wipeS at h
    by_cases z : v = i
    · subst z
      have hl : v < (wipeS δ vs).length := by
        have := (List.getElem?_eq_some_iff.mp h).1
        simpa using this
      rw [List.getElem?_set_self hl] at h
      cases h
      exact .inl ⟨by simp, rfl⟩
    · rw [List.getElem?_set_ne z] at h
      rcases wipeS_get vs i s h with ⟨a, b⟩ | ⟨a, b⟩
      · exact .inl ⟨List.mem_cons_of_mem _ a, b⟩
      · exact .inr ⟨fun q => (List.mem_cons.mp q).elim (fun q => z q.symm) a, b⟩
theorem wipe_ne : ∀ (vs : List Nat) (i : Nat), i ∉ vs → (wipe σ vs)[i]? = σ[i]?
  | [], i, _ => rfl
  | v :: vs, i, h => by
    unfold wipe
    rw [List.getElem?_set_ne (fun z => h (by simp [z])), wipe_ne vs i fun q => h (List.mem_cons_of_mem _ q)]
theorem StR.wiped (h : StR w K Z F0 δ σ F H) (vs : List Nat) : StR w K Z F0 (wipeS δ vs) (wipe σ vs) F H := by
  obtain ⟨fp, h1, h2, h3⟩ := h.sl
  refine ⟨h.ef, h.e0, h.ez, h.fz, by rw [wipeS_len, wipe_length, h.len], fp, fun i s e => ?_, h2, h3⟩
  rcases wipeS_get vs i s e with ⟨a, rfl⟩ | ⟨a, b⟩
  · trivial
  · rw [wipe_ne vs i a]; exact h1 i s b
/-- the outer slots at vs, the inner ones elsewhere -/
def backS (δ δ' : S) : List Nat → S
  | [] => δ'
  | v :: vs => (backS δ δ' vs).set v (δ.getD v .un)
theorem backS_len (δ δ' : S) : ∀ vs, (backS δ δ' vs).length = δ'.length
  | [] => rfl
  | v :: vs => by unfold backS; rw [List.length_set, backS_len δ δ' vs]
theorem backS_get : ∀ (vs : List Nat) (i : Nat) (s : Sl), (backS δ δ' vs)[i]? = some s → (i ∈ vs ∧ s = δ.getD i .un) ∨ (i ∉ vs ∧ δ'[i]? = some s)
  | [], i, s, h => .inr ⟨by simp, h⟩
  | v :: vs, i, s, h => by
    unfold backS at h
    by_cases z : v = i
    · subst z
      have hl : v < (backS δ δ' vs).length := by
        have := (List.getElem?_eq_some_iff.mp h).1
        simpa using this
      rw [List.getElem?_set_self hl] at h
      cases h
      exact .inl ⟨by simp, rfl⟩
    · rw [List.getElem?_set_ne z] at h
      rcases backS_get vs i s h with ⟨a, b⟩ | ⟨a, b⟩
      · exact .inl ⟨List.mem_cons_of_mem _ a, b⟩
      · exact .inr ⟨fun q => (List.mem_cons.mp q).elim (fun q => z q.symm) a, b⟩
def noOw (δ : S) (vs : List Nat) : Bool := vs.all fun i => match δ[i]? with
  | some (.ow _ _) => false
  | _ => true
theorem StR.back {F1 H1 : Hp} (h : StR w K Z F0 δ σ F H) (vs : List Nat) (no : noOw δ vs = true) (h' : StR w K Z F0 δ' σ' F1 H1) (e : Ex F F1) (ew : L2.wipe σ' vs = L2.wipe σ vs) : StR w K Z F0 (backS δ δ' vs) σ F1 H1 := by
  obtain ⟨fp0, k1, k2, k3⟩ := h.sl
  obtain ⟨fp, h1, h2, h3⟩ := h'.sl
  have hlen : σ'.length = σ.length := by
    have := congrArg List.length ew
    rw [wipe_length, wipe_length] at this
    exact this
  have nov : ∀ i s, i ∈ vs → δ[i]? = some s → ∀ q o, s ≠ .ow q o := fun i s hi q q' o z => by
    have := List.all_eq_true.mp no i hi
    rw [q, z] at this
    cases this
  refine ⟨h'.ef, h'.e0, h'.ez, h'.fz, by rw [backS_len, h'.len, hlen], fun i => if i ∈ vs then [] else fp i, fun i s q => ?_, fun i p hp => ?_, fun i j p hi hj => ?_⟩
  · rcases backS_get vs i s q with ⟨a, b⟩ | ⟨a, b⟩
    · subst b
      have hl : i < δ.length := by
        have := (List.getElem?_eq_some_iff.mp q).1
        rw [backS_len, h'.len, hlen, ← h.len] at this
        exact this
      have e0 : δ[i]? = some (δ.getD i .un) := by
        rw [List.getD_eq_getElem?_getD, List.getElem?_eq_getElem hl]; rfl
      have := k1 i _ e0
      revert this
      cases hs : δ.getD i .un with
      | un => intro _; trivial
      | im d => rintro ⟨x, z1, z2⟩; exact ⟨x, z1, z2.mono e⟩
      | rw y => intro z; exact z
      | fl l => rintro ⟨x, z1, z2⟩; exact ⟨x, z1, ex_l e z2⟩
      | ow q' o => exact absurd hs (nov i _ a e0 q' o)
    · dsimp only
      rw [if_neg a]
      have : σ'[i]? = σ[i]? := by rw [← wipe_ne vs i a, ew, wipe_ne vs i a]
      rw [← this]
      exact h1 i s b
  · dsimp only at hp
    by_cases z : i ∈ vs
    · rw [if_pos z] at hp; simp at hp
    · rw [if_neg z] at hp; exact h2 i p hp
  · dsimp only at hi hj
    by_cases z : i ∈ vs
    · rw [if_pos z] at hi; simp at hi
    · by_cases z2 : j ∈ vs
      · rw [if_pos z2] at hj; simp at hj
      · rw [if_neg z] at hi; rw [if_neg z2] at hj; exact h3 i j p hi hj
end

/-! ### walks whose length is within the line -/
def tMIL (w : World) (K : PySem.W.Frag) (f : M (List D)) : TI := fun σ H R => ∃ Z F0 F δ ds δ', StR w K Z F0 δ σ F H ∧ f δ = some (ds, δ') ∧
  ∀ J F' H', Ex F F' → StR w K Z F0 δ' σ F' H' → WalkD w K J F' ds → ds.length ≤ sizeLine → R J H'
abbrev PMIL (X : Cx) (tg it : Expr) (f : M (List D)) : Prop := PI X tg it (tMIL X.w X.K f)
abbrev PXIL (X : Cx) (tg it : Expr) (f : S → Option (List D)) : Prop := PMIL X tg it (pur f)
def mChk (f : M (List D)) : M (List D) := fun δ => match f δ with
  | some (ds, δ') => if ds.length ≤ sizeLine then some (ds, δ') else none
  | none => none
def pChk (f : S → Option (List D)) : S → Option (List D) := fun δ => match f δ with
  | some ds => if ds.length ≤ sizeLine then some ds else none
  | none => none
theorem mChk_pur {f : S → Option (List D)} : mChk (pur f) = pur (pChk f) := by
  funext δ
  simp only [mChk, pur, pChk]
  cases h : f δ with
  | none => rfl
  | some ds => by_cases q : ds.length ≤ sizeLine <;> simp [q]
section
variable {X : Cx} {tg it l : Expr} {f : M D} {fi : M (List D)}
theorem PMIL.cast {f g : M (List D)} (h : PMIL X tg it f) (q : f = g) : PMIL X tg it g := q ▸ h
theorem pmil_chk (h : PMI X tg it fi) : PMIL X tg it (mChk fi) := PI.mono h fun σ H R => by
  rintro ⟨Z, F0, F, δ, ds, δ', st, hf, q⟩
  unfold mChk at hf
  split at hf
  · rename_i ds1 δ1 e1
    split at hf
    · rename_i hl
      cases hf
      exact ⟨Z, F0, F, δ, ds, _, st, e1, fun J F' H' ex st' wk => q J F' H' ex st' wk hl⟩
    · cases hf
  · cases hf
theorem pxil_chk {gi : S → Option (List D)} (h : PXI X tg it gi) : PXIL X tg it (pChk gi) := (pmil_chk h).cast mChk_pur
theorem PI.inv {wi : TI} (h : PI X tg it wi) : PI X tg it (fun σ H R => wi σ H fun J H' => (∃ pins s, Inv X pins σ H' s) → R J H') := ⟨fun pins s σ H R I q => by
  refine thn (h.run pins s σ H _ I q) fun v s1 h1 => thn h1 fun itv s2 h2 => ?_
  obtain ⟨i, fp, tn, J, H2, e, I2, T, st2, f2, q2⟩ := h2
  exact ⟨i, fp, tn, J, H2, e, I2, T, st2, f2, q2 ⟨_, _, I2⟩⟩⟩
theorem pmil_seq' (h : PM X l f) (hstr : ∀ δ z δ', f δ = some (.str z, δ') → z.length ≤ sizeLine) : PMIL X tg l (mIter f) := by
  have hp := PI.inv (PI.or (pi_list (tg := tg) h) (PI.or (pi_tup (tg := tg) h) (pi_str (tg := tg) h)))
  refine PI.mono hp fun σ H R => ?_
  rintro ⟨Z, F0, F, δ, ds, δ', st, hf, q⟩
  obtain ⟨d, δ1, h1, hf⟩ := bnd_some hf
  obtain ⟨hw, rfl⟩ := lft_some hf
  cases d with
  | list xs =>
    cases hw
    refine .inl ⟨Z, F0, F, δ, _, _, st, h1, fun v F' H' ex st' r => ?_⟩
    cases r with
    | lst hs ha =>
      refine ⟨_, rfl, ⟨_, ex_l st'.ef (SqL.of hs)⟩, fun ⟨pins, s, I⟩ => q _ F' H' ex st' (walk_list (SqL.of hs) ha) ?_⟩
      obtain ⟨_, _, _, z⟩ := I.list (ex_l st'.ef (SqL.of hs))
      rw [← ha.length]; exact z
  | tuple xs =>
    cases hw
    refine .inr (.inl ⟨Z, F0, F, δ, _, _, st, h1, fun v F' H' ex st' r => ?_⟩)
    cases r with
    | tup hs ha =>
      refine ⟨_, rfl, ⟨_, ex_t st'.ef hs⟩, fun ⟨pins, s, I⟩ => q _ F' H' ex st' (walk_tup hs ha) ?_⟩
      obtain ⟨_, _, _, z⟩ := I.tuple (ex_t st'.ef hs)
      rw [← ha.length]; exact z
  | str z =>
    cases hw
    refine .inr (.inr ⟨Z, F0, F, δ, _, _, st, h1, fun v F' H' ex st' r => ?_⟩)
    cases r with
    | str _ => exact ⟨_, rfl, fun _ => q _ F' H' ex st' walk_str (by have := hstr _ _ _ h1; simpa [Str.length] using this)⟩
  | _ => cases hw
/-- a list or a tuple -/
def iterS : D → Option (List D)
  | .list ds => some ds
  | .tuple ds => some ds
  | _ => none
def mIterS (f : M D) : M (List D) := bnd f fun d => lft (iterS d)
def pIterS (f : S → Option D) : S → Option (List D) := fun δ => (f δ).bind iterS
theorem mIterS_pur {f : S → Option D} : mIterS (pur f) = pur (pIterS f) := by
  funext δ; unfold mIterS bnd pur lft pIterS; dsimp only; cases h : f δ <;> rfl
theorem pmil_seq (h : PM X l f) : PMIL X tg l (mIterS f) := by
  have hp := PI.inv (PI.or (pi_list (tg := tg) h) (pi_tup (tg := tg) h))
  refine PI.mono hp fun σ H R => ?_
  rintro ⟨Z, F0, F, δ, ds, δ', st, hf, q⟩
  obtain ⟨d, δ1, h1, hf⟩ := bnd_some hf
  obtain ⟨hw, rfl⟩ := lft_some hf
  cases d with
  | list xs =>
    cases hw
    refine .inl ⟨Z, F0, F, δ, _, _, st, h1, fun v F' H' ex st' r => ?_⟩
    cases r with
    | lst hs ha =>
      refine ⟨_, rfl, ⟨_, ex_l st'.ef (SqL.of hs)⟩, fun ⟨pins, s, I⟩ => q _ F' H' ex st' (walk_list (SqL.of hs) ha) ?_⟩
      obtain ⟨_, _, _, z⟩ := I.list (ex_l st'.ef (SqL.of hs))
      rw [← ha.length]; exact z
  | tuple xs =>
    cases hw
    refine .inr ⟨Z, F0, F, δ, _, _, st, h1, fun v F' H' ex st' r => ?_⟩
    cases r with
    | tup hs ha =>
      refine ⟨_, rfl, ⟨_, ex_t st'.ef hs⟩, fun ⟨pins, s, I⟩ => q _ F' H' ex st' (walk_tup hs ha) ?_⟩
      obtain ⟨_, _, _, z⟩ := I.tuple (ex_t st'.ef hs)
      rw [← ha.length]; exact z
  | _ => cases hw
theorem pxil_seq {g : S → Option D} (h : PX X l g) : PXIL X tg l (pIterS g) := (pmil_seq h).cast mIterS_pur

/-! ### comprehensions -/
def lcM (t : D → S → Option S) (c : M Bool) (e : M D) (vs : List Nat) : List D → S → Option (List D × S)
  | [], δ => some ([], δ)
  | d :: ds, δ => match t d (wipeS δ vs) with
    | none => none
    | some δ1 => match c δ1 with
      | none => none
      | some (false, δ2) => lcM t c e vs ds (backS δ δ2 vs)
      | some (true, δ2) => match e δ2 with
        | none => none
        | some (x, δ3) => match lcM t c e vs ds (backS δ δ3 vs) with
          | none => none
          | some (xs, δ') => some (x :: xs, δ')
def mLc (fi : M (List D)) (t : D → S → Option S) (c : M Bool) (e : M D) (vs : List Nat) : M (List D) := fun δ => match fi δ with
  | none => none
  | some (ds, δ1) => if noOw δ1 vs then lcM t c e vs ds δ1 else none
/-- the target stores into the block's own slots alone -/
def Keeps (t : D → S → Option S) (vs : List Nat) : Prop := ∀ d δ δ', t d δ = some δ' → δ'.length = δ.length ∧ ∀ i, i ∉ vs → δ'[i]? = δ[i]?
theorem noOw_back {δ δ' : S} {vs : List Nat} (h : noOw δ vs = true) : noOw (backS δ δ' vs) vs = true := by
  rw [noOw, List.all_eq_true] at h ⊢
  intro i hi
  have := h i hi
  cases e : (backS δ δ' vs)[i]? with
  | none => rfl
  | some s =>
    rcases backS_get vs i s e with ⟨_, b⟩ | ⟨b, _⟩
    · subst b
      rw [List.getD_eq_getElem?_getD]
      cases e2 : δ[i]? with
      | none => rfl
      | some s2 =>
        rw [e2] at this
        cases s2 with
        | ow q' o => cases this
        | _ => rfl
    · exact absurd hi b
def tMTs (w : World) (K : PySem.W.Frag) (f : M Bool) : TT := tMT w K f
theorem pmts_nil : PTs X [] (tMT X.w X.K (ret true)) := ⟨fun pins s σ H Q I h => by
  obtain ⟨Z, F0, F, δ, d, δ', st, hf, q⟩ := h
  cases hf
  exact pts_nil.run pins s σ H Q I (q F H (Ex.refl F) st)⟩
theorem pmts_one {c : Expr} {fc : M Bool} (h : PMT X c fc) : PTs X [c] (tMT X.w X.K fc) := pts_one h
/-- a target within a block: its own slots alone are stored -/
theorem wipe_set {i : Nat} {x : Option V} : ∀ {vs : List Nat} {σ : L2.St}, i ∈ vs → wipe (σ.set i x) vs = wipe σ vs
  | v :: vs, σ, h => by
    unfold wipe
    by_cases z : v = i
    · subst z
      by_cases m : v ∈ vs
      · rw [wipe_set m]
      · have : ∀ (vs : List Nat) (σ : L2.St), v ∉ vs → wipe (σ.set v x) vs = (wipe σ vs).set v x := by
          intro vs
          induction vs with
          | nil => intro σ _; rfl
          | cons u us ih =>
            intro σ hm
            unfold wipe
            rw [ih σ fun q => hm (List.mem_cons_of_mem _ q)]
            exact List.set_comm _ _ (fun q => hm (by simp [q]))
        rw [this vs σ m, List.set_set]
    · rw [wipe_set ((List.mem_cons.mp h).resolve_left fun q => z q.symm)]
theorem wipe_idem : ∀ (vs : List Nat) (σ : L2.St), wipe (wipe σ vs) vs = wipe σ vs := fun vs σ => by
  have : ∀ (us : List Nat) (σ : L2.St), (∀ i ∈ us, i ∈ vs) → wipe (wipe σ us) vs = wipe σ vs := by
    intro us
    induction us with
    | nil => intro σ _; rfl
    | cons u us ih =>
      intro σ h
      rw [show wipe σ (u :: us) = (wipe σ us).set u none from rfl, wipe_set (h u (by simp)), ih σ fun i hi => h i (List.mem_cons_of_mem _ hi)]
  exact this vs σ fun _ h => h
def tMGc (w : World) (K : PySem.W.Frag) (t : D → S → Option S) (vs : List Nat) : TG := fun v σ H Q => ∃ Z F0 F δ d δ', StR w K Z F0 δ σ F H ∧ Rp w K F v d ∧ t d δ = some δ' ∧ ∀ σ' F' H', Ex F F' → StR w K Z F0 δ' σ' F' H' → L2.wipe σ' vs = L2.wipe σ vs → Q σ' H'
abbrev PCG (X : Cx) (tg : Expr) (t : D → S → Option S) (vs : List Nat) : Prop := PG X tg (tMGc X.w X.K t vs)
def tMGcs (w : World) (K : PySem.W.Frag) (t : List D → S → Option S) (vs : List Nat) : TGs := fun v σ H Q => ∃ Z F0 F δ d δ', StR w K Z F0 δ σ F H ∧ RpAll w K F v d ∧ t d δ = some δ' ∧ ∀ σ' F' H', Ex F F' → StR w K Z F0 δ' σ' F' H' → L2.wipe σ' vs = L2.wipe σ vs → Q σ' H'
abbrev PCGs (X : Cx) (tg : List Expr) (t : List D → S → Option S) (vs : List Nat) : Prop := PGs X tg (tMGcs X.w X.K t vs)
section
variable {vs : List Nat} {pos : Pos} {e : Expr}
theorem pcg_name {i : Nat} {x : Str} (hN : X.N.Nodup) (hv : i ∈ vs := by decide) (hi : X.N[i]? = some x := by rfl) (hx : Loc X.env.scope x := by first | exact Or.inl rfl | exact Or.inr rfl) (hf : X.fn x = true ∨ X.env.scope.names.lookup x = some .local := by first | exact .inl rfl | exact .inr rfl | assumption) : PCG X (.Name x pos) (putS i) vs :=
  PG.mono (pg_name hN hi hx hf) fun v σ H Q => by
    rintro ⟨Z, F0, F, δ, d, δ', st, r, ht, q⟩
    cases ht
    exact q _ F H (Ex.refl F) (st.put r) (wipe_set hv)
theorem pcgs_nil : PCGs X [] gsNil vs := PGs.mono pgs_nil fun v σ H Q => by
  rintro ⟨Z, F0, F, δ, d, δ', st, r, ht, q⟩
  cases r with
  | nil => cases ht; exact ⟨rfl, q σ F H (Ex.refl F) st rfl⟩
  | cons _ _ => cases ht
theorem pcgs_cons {es : List Expr} {t : D → S → Option S} {u : List D → S → Option S} (h1 : PCG X e t vs) (h2 : PCGs X es u vs)
    (hs : (assignEach (e :: es) X.env).map (·.2) = assign e X.env :: (assignEach es X.env).map (·.2) := by rfl) : PCGs X (e :: es) (gsCons t u) vs := PGs.mono (pgs_cons h1 h2 hs) fun v σ H Q => by
  rintro ⟨Z, F0, F, δ, d, δ', st, r, ht, q⟩
  cases r with
  | nil => cases ht
  | cons r1 r2 =>
    rename_i v1 vs d1 ds
    unfold gsCons at ht
    cases e1 : t d1 δ with
    | none => simp only [e1] at ht; cases ht
    | some δ1 =>
      simp only [e1] at ht
      exact ⟨_, _, rfl, Z, F0, F, δ, _, δ1, st, r1, e1, fun σ' F' H' ex st' w1 => ⟨Z, F0, F', δ1, _, δ', st', r2.mono ex, ht, fun σ2 F2 H2 ex2 st2 w2 => q σ2 F2 H2 (ex.trans ex2) st2 (w2.trans w1)⟩⟩
theorem pcg_tup {es : List Expr} {k : Nat} {u : List D → S → Option S} {n : Nat} (hc : X.calm = true) (h : PCGs X es u vs) (hu : ∀ ds δ δ', u ds δ = some δ' → ds.length = n)
    (hn : (assignEach es X.env).length = n := by rfl) (hst : (assignEach es X.env).findIdx? (·.1) = none := by rfl) : PCG X (.Tuple es k pos) (tupT u) vs := PG.mono (pg_tup hc h hn hst) fun v σ H Q => by
  rintro ⟨Z, F0, F, δ, d, δ', st, r, ht, q⟩
  cases r with
  | tup hs ha => exact ⟨_, _, rfl, ex_t st.ef hs, (by rw [ha.length]; exact hu _ _ _ ht), Z, F0, F, δ, _, δ', st, ha, ht, q⟩
  | _ => cases ht
end
theorem tM_lc {w : World} {K : PySem.W.Frag} {t : D → S → Option S} {c : M Bool} {e : M D} {vs : List Nat}
    (σ : L2.St) (H : Hp) (Q : VK) (Z F0 F : Hp) (δ : S) (xs : List D) (δ' : S) (st : StR w K Z F0 δ σ F H) (hf : mLc fi t c e vs δ = some (xs, δ'))
    (q : ∀ p us F' H', Ex F F' → StR w K (upd Z p (.lst us)) F0 δ' σ F' H' → RpAll w K F' us xs → F0 p = none → Z p = none → Q (.ref p) H') : tLc (tMIL w K fi) (tMGc w K t vs) (tMT w K c) (tM w K e) vs σ H Q := by
  unfold mLc at hf
  split at hf
  · cases hf
  · rename_i ds δ1 e1
    split at hf
    · rename_i no1
      refine ⟨Z, F0, F, δ, ds, δ1, st, e1, fun J F1 H1 ex1 st1 wk hlen Dd hD => ?_⟩
      have hZ : Z Dd = none := st1.ez.back hD
      have h0 : F0 Dd = none := (st1.e0.trans st1.ef).back hD
      refine ⟨fun i m H => ∃ F2 δ2 acc accd rest, StR w K (upd Z Dd (.lst acc)) F0 δ2 σ F2 H ∧ Ex F1 F2 ∧ noOw δ2 vs = true ∧ RpAll w K F2 acc accd ∧ m = ds.length - i ∧ i ≤ ds.length ∧ acc.length ≤ i ∧ lcM t c e vs (ds.drop i) δ2 = some (rest, δ') ∧ xs = accd ++ rest,
        ⟨ds.length, F1, δ1, [], [], xs, st1.alloc hD, Ex.refl F1, no1, .nil, by simp, Nat.zero_le _, Nat.le_refl _, hf, rfl⟩, ?_⟩
      rintro i m H2 ⟨F2, δ2, acc, accd, rest, st2, ex2, no2, ra, rfl, hi, hacc, hl, hxs⟩
      by_cases hlt : i < ds.length
      · refine .inr ⟨wk.go i H2 hlt (ex2.trans st2.ef), fun H => ∃ F2 δ2 acc accd rest, StR w K (upd Z Dd (.lst acc)) F0 δ2 σ F2 H ∧ Ex F1 F2 ∧ noOw δ2 vs = true ∧ RpAll w K F2 acc accd ∧ acc.length ≤ i + 1 ∧ lcM t c e vs (ds.drop (i + 1)) δ2 = some (rest, δ') ∧ xs = accd ++ rest,
          fun H' ⟨F3, δ3, a3, b3, c3, s3, x3, n3, r3, l3, k3, z3⟩ => ⟨ds.length - (i + 1), by omega, F3, δ3, a3, b3, c3, s3, x3, n3, r3, rfl, by omega, l3, k3, z3⟩, fun x H' y => ?_⟩
        have hd : ds.drop i = ds[i] :: ds.drop (i + 1) := List.drop_eq_getElem_cons hlt
        obtain ⟨F3, gw, r⟩ := wk.yld i ds[i] F2 H2 x H' (List.getElem?_eq_getElem hlt) ex2 st2.ef y
        have st3 := st2.grow gw
        rw [hd] at hl
        unfold lcM at hl
        split at hl
        · cases hl
        · rename_i δ4 e4
          refine ⟨upd Z Dd (.lst acc), F0, F3, wipeS δ2 vs, ds[i], δ4, st3.wiped vs, r, e4, fun σ5 F5 H5 ex5 st5 w5 => ?_⟩
          rw [wipe_idem] at w5
          refine ⟨w5, ?_⟩
          split at hl
          · cases hl
          · rename_i δ6 e6
            refine ⟨upd Z Dd (.lst acc), F0, F5, δ4, false, δ6, st5, e6, fun F6 H6 ex6 st6 => iteF ?_⟩
            have exA : Ex F3 F6 := ex5.trans ex6
            exact ⟨F6, _, acc, accd, rest, st3.back vs no2 st6 exA w5, (ex2.trans gw.f).trans exA, noOw_back no2, ra.mono (gw.f.trans exA), by omega, hl, hxs⟩
          · rename_i δ6 e6
            refine ⟨upd Z Dd (.lst acc), F0, F5, δ4, true, δ6, st5, e6, fun F6 H6 ex6 st6 => iteT ?_⟩
            split at hl
            · cases hl
            · rename_i y7 δ7 e7
              refine ⟨upd Z Dd (.lst acc), F0, F6, δ6, y7, δ7, st6, e7, fun v8 F8 H8 ex8 st8 r8 => ?_⟩
              have exA : Ex F3 F8 := (ex5.trans ex6).trans ex8
              split at hl
              · cases hl
              · rename_i xs9 δ9 e9
                cases hl
                refine ⟨acc, st8.at, by omega, F8, _, acc ++ [v8], accd ++ [y7], xs9, (st3.back vs no2 st8 exA w5).store h0, (ex2.trans gw.f).trans exA, noOw_back no2, (ra.mono (gw.f.trans exA)).append (.cons r8 .nil), ?_, e9, ?_⟩
                · rw [List.length_append]; simp; omega
                · rw [hxs]; simp
      · have e : i = ds.length := by omega
        subst e
        rw [List.drop_length] at hl
        cases hl
        rw [List.append_nil] at hxs
        subst hxs
        exact .inl ⟨wk.stop H2 (ex2.trans st2.ef), q Dd acc F2 H2 (ex1.trans ex2) st2 ra h0 hZ⟩
    · cases hf
section
variable {elt : Expr} {ifs : List Expr} {scope : Scope} {own : List (Str × Nat)} {pos : Pos} {t : D → S → Option S} {c : M Bool} {e : M D}
def mLcV (fi : M (List D)) (t : D → S → Option S) (c : M Bool) (e : M D) (vs : List Nat) : M D := fun δ => match mLc fi t c e vs δ with
  | some (xs, δ') => some (.list xs, δ')
  | none => none
theorem tM_lcV {w : World} {K : PySem.W.Frag} {vs : List Nat} (σ : L2.St) (H : Hp) (Q : VK) (h : tM w K (mLcV fi t c e vs) σ H Q) : tLc (tMIL w K fi) (tMGc w K t vs) (tMT w K c) (tM w K e) vs σ H Q := by
  obtain ⟨Z, F0, F, δ, d, δ', st, hf, q⟩ := h
  unfold mLcV at hf
  split at hf
  · rename_i xs δ1 e1
    cases hf
    exact tM_lc σ H Q Z F0 F δ xs _ st e1 fun p us F' H' ex st' ra h0 hZ => q _ (upd F' p (.lst us)) H' (ex.trans (Ex.new (st'.noF h0))) (st'.freeze h0 hZ) (.lst upd_same (ra.mono (Ex.new (st'.noF h0))))
  · cases hf
theorem pm_lc (own : List (Str × Nat)) (hc : X.calm = true) (hN : X.N.Nodup) (hi : PMIL X tg it fi) (ok : BlkOk X.N X.env.scope scope own)
    (hg : ∀ (s : Shared) (H : Hp) (C : Addr) (cl : List (Str × Addr)) (fp : List Addr), PCG (X.blk s H scope (compEnvC scope cl C X.env) fp) tg t (own.map (·.2)))
    (ht : ∀ (s : Shared) (H : Hp) (C : Addr) (cl : List (Str × Addr)) (fp : List Addr), PTs (X.blk s H scope (compEnvC scope cl C X.env) fp) ifs (tMT X.w X.K c))
    (he : ∀ (s : Shared) (H : Hp) (C : Addr) (cl : List (Str × Addr)) (fp : List Addr), PM (X.blk s H scope (compEnvC scope cl C X.env) fp) elt e) (hs : ∀ x, foldedSetIterable it X.env x = pure x := by intro _; rfl) :
    PM X (.ListComp elt [⟨tg, it, ifs, 0⟩] scope pos) (mLcV fi t c e (own.map (·.2))) := PE.mono (pe_lc hc hN hi ok hg ht he hs) tM_lcV
/-- x = [..] -/
theorem pms_setLc {W : WX} {i : Nat} {y : Str} {py spos : Pos} (own : List (Str × Nat)) (hc : X.calm = true) (hN : X.N.Nodup) (hi : PMIL X tg it fi) (ok : BlkOk X.N X.env.scope scope own)
    (hg : ∀ (s : Shared) (H : Hp) (C : Addr) (cl : List (Str × Addr)) (fp : List Addr), PCG (X.blk s H scope (compEnvC scope cl C X.env) fp) tg t (own.map (·.2)))
    (ht : ∀ (s : Shared) (H : Hp) (C : Addr) (cl : List (Str × Addr)) (fp : List Addr), PTs (X.blk s H scope (compEnvC scope cl C X.env) fp) ifs (tMT X.w X.K c))
    (he : ∀ (s : Shared) (H : Hp) (C : Addr) (cl : List (Str × Addr)) (fp : List Addr), PM (X.blk s H scope (compEnvC scope cl C X.env) fp) elt e)
    (hsw : swapsWith (.ListComp elt [⟨tg, it, ifs, 0⟩] scope pos) (some (.Name y py)) spos.line X.env = pure true)
    (hy : X.N[i]? = some y := by rfl) (hyl : X.env.scope.names.lookup y = some .local := by rfl) (hs : ∀ x, foldedSetIterable it X.env x = pure x := by intro _; rfl) :
    PMS X W (.Assign [.Name y py] (.ListComp elt [⟨tg, it, ifs, 0⟩] scope pos) spos) (asgO (mLcV fi t c e (own.map (·.2))) (putS i)) :=
  PS.mono (ps_setLc hc hN hy hyl hsw hi ok hg ht he hs) (tMS_asg tM_lcV tMG_name)
end
end

/-! ### pure comprehensions -/
def lcP (t : D → S → Option S) (c : S → Option Bool) (e : S → Option D) (δ : S) : List D → Option (List D)
  | [] => some []
  | d :: ds => (t d δ).bind fun δ1 => (c δ1).bind fun b => if b then (e δ1).bind fun x => (lcP t c e δ ds).bind fun xs => some (x :: xs) else lcP t c e δ ds
def pLc (fi : S → Option (List D)) (t : D → S → Option S) (c : S → Option Bool) (e : S → Option D) (vs : List Nat) : S → Option D := fun δ => (fi δ).bind fun ds => if noOw δ vs then (lcP t c e (wipeS δ vs) ds).bind fun xs => some (.list xs) else none
theorem backS_keep {t : D → S → Option S} {vs : List Nat} (k : Keeps t vs) {d : D} {δ δ1 : S} (h : t d (wipeS δ vs) = some δ1) : backS δ δ1 vs = δ := by
  obtain ⟨hl, hk⟩ := k _ _ _ h
  rw [wipeS_len] at hl
  apply List.ext_getElem?
  intro i
  by_cases hi : i < δ.length
  · have hb : i < (backS δ δ1 vs).length := by rw [backS_len, hl]; exact hi
    rcases backS_get vs i _ (List.getElem?_eq_getElem hb) with ⟨_, b⟩ | ⟨a, b⟩
    · rw [List.getElem?_eq_getElem hb, b, List.getD_eq_getElem?_getD, List.getElem?_eq_getElem hi]; rfl
    · rw [List.getElem?_eq_getElem hb, ← b, hk i a]
      cases e : (wipeS δ vs)[i]? with
      | none =>
        rw [List.getElem?_eq_none_iff, wipeS_len] at e
        omega
      | some s =>
        rcases wipeS_get vs i s e with ⟨c, _⟩ | ⟨_, c⟩
        · exact absurd c a
        · exact c.symm
  · rw [List.getElem?_eq_none (by rw [backS_len, hl]; omega), List.getElem?_eq_none (by omega)]
theorem lcM_pur {t : D → S → Option S} {c : S → Option Bool} {e : S → Option D} {vs : List Nat} (k : Keeps t vs) (δ : S) : ∀ ds, lcM t (pur c) (pur e) vs ds δ = (lcP t c e (wipeS δ vs) ds).map fun xs => (xs, δ)
  | [] => rfl
  | d :: ds => by
    unfold lcM lcP
    cases h1 : t d (wipeS δ vs) with
    | none => rfl
    | some δ1 =>
      simp only [Option.bind_some]
      unfold pur
      cases h2 : c δ1 with
      | none => rfl
      | some b =>
        cases b with
        | false =>
          simp only [Option.bind_some, Bool.false_eq_true, if_false]
          rw [backS_keep k h1]
          exact lcM_pur k δ ds
        | true =>
          simp only [Option.bind_some, if_true]
          cases h3 : e δ1 with
          | none => rfl
          | some x =>
            simp only [Option.bind_some]
            rw [backS_keep k h1]
            have ih := lcM_pur (c := c) (e := e) k δ ds
            unfold pur at ih
            rw [ih]
            cases lcP t c e (wipeS δ vs) ds <;> rfl
theorem mLcV_pur {fi : S → Option (List D)} {t : D → S → Option S} {c : S → Option Bool} {e : S → Option D} {vs : List Nat} (k : Keeps t vs) : mLcV (pur fi) t (pur c) (pur e) vs = pur (pLc fi t c e vs) := by
  funext δ
  simp only [mLcV, mLc, pLc]
  have ih := fun ds => lcM_pur (c := c) (e := e) k δ ds
  show (match (match pur fi δ with | none => none | some (ds, δ1) => if noOw δ1 vs = true then lcM t (pur c) (pur e) vs ds δ1 else none) with | some (xs, δ') => some (PyData.list xs, δ') | none => none) = pur (fun δ => (fi δ).bind fun ds => if noOw δ vs = true then (lcP t c e (wipeS δ vs) ds).bind fun xs => some (PyData.list xs) else none) δ
  unfold pur at ih ⊢
  cases h1 : fi δ with
  | none => simp [h1]
  | some ds =>
    cases h2 : noOw δ vs with
    | false => simp [h1, h2]
    | true =>
      simp only [h1, h2, Option.bind_some, if_true, ih]
      cases lcP t c e (wipeS δ vs) ds <;> rfl
theorem keeps_put {i : Nat} {vs : List Nat} (h : i ∈ vs := by decide) : Keeps (putS i) vs := fun d δ δ' e => by
  cases e
  exact ⟨by simp, fun j hj => List.getElem?_set_ne (fun z => hj (by rw [← z]; exact h))⟩
def KeepsL (t : List D → S → Option S) (vs : List Nat) : Prop := ∀ d δ δ', t d δ = some δ' → δ'.length = δ.length ∧ ∀ i, i ∉ vs → δ'[i]? = δ[i]?
theorem keeps_nil {vs : List Nat} : KeepsL gsNil vs := fun d δ δ' e => by
  cases d with
  | nil => cases e; exact ⟨rfl, fun _ _ => rfl⟩
  | cons _ _ => cases e
theorem keeps_cons {t : D → S → Option S} {u : List D → S → Option S} {vs : List Nat} (h1 : Keeps t vs) (h2 : KeepsL u vs) : KeepsL (gsCons t u) vs := fun d δ δ' e => by
  cases d with
  | nil => cases e
  | cons d r =>
    unfold gsCons at e
    cases e1 : t d δ with
    | none => simp only [e1] at e; cases e
    | some δ1 =>
      simp only [e1] at e
      obtain ⟨a, b⟩ := h1 _ _ _ e1
      obtain ⟨a', b'⟩ := h2 _ _ _ e
      exact ⟨a'.trans a, fun i hi => (b' i hi).trans (b i hi)⟩
theorem keeps_tup {u : List D → S → Option S} {vs : List Nat} (h : KeepsL u vs) : Keeps (tupT u) vs := fun d δ δ' e => by
  cases d with
  | tuple ds => exact h _ _ _ e
  | _ => cases e
section
variable {X : Cx} {tg it elt : Expr} {ifs : List Expr} {scope : Scope} {pos : Pos} {t : D → S → Option S} {fi : S → Option (List D)} {c : S → Option Bool} {e : S → Option D}
theorem pxts_nil : PTs X [] (tMT X.w X.K (pur fun _ => some true)) := pmts_nil
theorem pxts_one {c : Expr} {fc : S → Option Bool} (h : PXT X c fc) : PTs X [c] (tMT X.w X.K (pur fc)) := pts_one h
theorem px_lc (own : List (Str × Nat)) (hc : X.calm = true) (hN : X.N.Nodup) (hi : PXIL X tg it fi) (ok : BlkOk X.N X.env.scope scope own) (k : Keeps t (own.map (·.2)))
    (hg : ∀ (s : Shared) (H : Hp) (C : Addr) (cl : List (Str × Addr)) (fp : List Addr), PCG (X.blk s H scope (compEnvC scope cl C X.env) fp) tg t (own.map (·.2)))
    (ht : ∀ (s : Shared) (H : Hp) (C : Addr) (cl : List (Str × Addr)) (fp : List Addr), PTs (X.blk s H scope (compEnvC scope cl C X.env) fp) ifs (tMT X.w X.K (pur c)))
    (he : ∀ (s : Shared) (H : Hp) (C : Addr) (cl : List (Str × Addr)) (fp : List Addr), PX (X.blk s H scope (compEnvC scope cl C X.env) fp) elt e) (hs : ∀ x, foldedSetIterable it X.env x = pure x := by intro _; rfl) :
    PX X (.ListComp elt [⟨tg, it, ifs, 0⟩] scope pos) (pLc fi t c e (own.map (·.2))) := (pm_lc own hc hN hi ok hg ht he hs).cast (mLcV_pur k)
end

/-! ### defs -/
/-- what a def without stores promises -/
def spP (w : World) (K : PySem.W.Frag) (f : List D → Option D) : Sp := fun vs H Q _ => ∃ F ds d, Ex F H ∧ RpAll w K F vs ds ∧ f ds = some d ∧ ∀ v F' H', Gw F H F' H' → Rp w K F' v d → Q v H'
/-- what a def that may raise promises -/
def spR (w : World) (K : PySem.W.Frag) (f : List D → Option (Except Addr D)) : Sp := fun vs H Q E => ∃ F ds r, Ex F H ∧ RpAll w K F vs ds ∧ f ds = some r ∧ match r with
  | .ok d => ∀ v F' H', Gw F H F' H' → Rp w K F' v d → Q v H'
  | .error c => ∀ F' H', Gw F H F' H' → E (.ref c) none H'
def initS (N : List Str) (ds : List D) : S := ds.map Sl.im ++ List.replicate (N.length - ds.length) Sl.un
theorem StR.init {w : World} {K : PySem.W.Frag} {F H : Hp} {N : List Str} {vs : List V} {ds : List D} (e : Ex F H) (r : RpAll w K F vs ds) : StR w K H F (initS N ds) (L2.start N vs) F H := by
  refine ⟨e, Ex.refl F, Ex.refl H, fun p q _ => q, ?_, fun _ => [], fun i s q => ?_, fun i p hp => by simp at hp, fun i j p hp => by simp at hp⟩
  · unfold initS L2.start
    simp [r.length]
  · unfold initS at q
    unfold L2.start
    have hl := r.length
    by_cases hi : i < ds.length
    · rw [List.getElem?_append_left (by simpa using hi), List.getElem?_map, List.getElem?_eq_getElem hi] at q
      cases q
      obtain ⟨u, h1, h2⟩ := r.get (List.getElem?_eq_getElem hi)
      rw [List.getElem?_append_left (by simp; omega), List.getElem?_map, h1]
      exact ⟨u, rfl, h2⟩
    · rw [List.getElem?_append_right (by simp; omega), List.getElem?_replicate] at q
      split at q
      · cases q; trivial
      · cases q
theorem StR.gw {w : World} {K : PySem.W.Frag} {F F' H H' : Hp} {δ : S} {σ : L2.St} (h : StR w K H F δ σ F' H') : Gw F H F' H' := ⟨h.e0, h.ez, h.ef, h.fz⟩
theorem passN {X : Cx} : Passes (L2N.CX X.prog X.w) X E0 := fun _ _ _ _ _ _ _ h => by
  obtain ⟨_, _, _, _, _, _, _, _, _, _, _, _, z⟩ := h
  exact z.elim
section
variable {P : Program} {w : World} {K : PySem.W.Frag} {mg : Str → Option Value} {base : Heap}
/-- the outcome of a body -/
def outR : Out → Option (Except Addr D)
  | .rt d _ => some (.ok d)
  | .nx _ => some (.ok .none)
  | .er c _ => some (.error c)
  | _ => none
def outP : Out → Option D
  | .rt d _ => some d
  | .nx _ => some .none
  | _ => none
def W0 : WX := fun _ _ _ _ => False
theorem ok_pure {x qual : Str} {st : Stmt} {f : Addr} {fd : FuncData} {N ps : List Str} {k : Nat} {fn : List D → Option D} {g : S → Option Out} (F : Fun K x qual st f fd) (S : FnScope N ps (defScope st))
    (hb : ∀ (cdv : Value) (A : Around) (outer : List Env) (s : Shared) (H : Hp) (E : XK), Room k (A.deeper (PyProof.Rows.envOfC qual (defScope st) s.heap.objs.size f cdv)) → PMSs (cxOf CX0 P w K mg base N qual (defScope st) f cdv A outer s H E).nox W0 (defBody st) g)
    (hlen : ∀ ds d, fn ds = some d → ds.length = ps.length) (hfn : ∀ ds d, fn ds = some d → (g (initS N ds)).bind outP = some d) : FnOk P w K mg base CX0 (k + 1) f fd ps (spP w K fn) := by
  refine F.ok S (fun vs H Q E h => ?_) (fun cdv A outer s H vs Q E hr h => ?_)
  · obtain ⟨F1, ds, d, _, r, e, _⟩ := h
    rw [r.length]; exact hlen ds d e
  · refine ⟨_, hb cdv A outer s H E hr, ?_⟩
    obtain ⟨F1, ds, d, ex, r, e, q⟩ := h
    have ho := hfn ds d e
    cases eo : g (initS N ds) with
    | none => rw [eo] at ho; cases ho
    | some o =>
      rw [eo] at ho
      refine ⟨H, F1, F1, initS N ds, o, StR.init ex r, eo, ?_⟩
      cases o with
      | rt d' δ' => cases ho; exact fun v σ' F' H' _ st rr => q v F' H' st.gw rr
      | nx δ' => cases ho; exact fun σ' F' H' _ st => q .non F' H' st.gw .non
      | _ => cases ho
end
section
variable {X : Cx} {W : WX} {k : Nat} {f : Addr} {fd : FuncData} {ps : List Str} {x : Str} {p pos : Pos} {e : Expr} {es : List Expr} {fl : M (List D)} {gl : S → Option (List D)} {fn : List D → Option D} {fr : List D → Option (Except Addr D)}
theorem tM_call {w : World} {K : PySem.W.Frag} {E : XK} (σ : L2.St) (H : Hp) (Q : VK) (h : tM w K (mA fn fl) σ H Q) : tCall (spP w K fn) [] E (tMA w K fl) σ H Q := by
  obtain ⟨Z, F0, F, δ, d, δ', st, hf, q⟩ := h
  obtain ⟨ds, δ1, h1, hf⟩ := bnd_some hf
  obtain ⟨hw, rfl⟩ := lft_some hf
  refine ⟨Z, F0, F, δ, ds, _, st, h1, fun vs F1 H1 e1 st1 r1 => ?_⟩
  dsimp only
  rw [List.append_nil]
  exact ⟨F1, ds, d, st1.ef, r1, hw, fun v F' H' gw r => q v F' H' (e1.trans gw.f) (st1.grow gw) r⟩
theorem pm_call (G : FnOk X.prog X.w X.K X.mg X.base CX0 k f fd ps (spP X.w X.K fn)) (hr : Room k X.A) (hm : X.mg x = some (.ref f)) (hk : PySem.W.keepIn X.K (.ref f) = true) (hb : Binds X.K fd ps [])
    (ha : PMA X (e :: es) fl) (hg : Gl X x := by rfl) (hdb : (x == ("__debug__" : Str)) = false := by decide) (he : starEach (e :: es) X.env = (false, eval e X.env) :: starEach es X.env := by rfl) (hpl : (backTo pos (starEach es X.env)).any (·.1) = false := by rfl) :
    PM X (.Call (.Name x p) (e :: es) [] pos) (mA fn fl) := PE.mono (pe_call G hr hg hm hk hb .nil pass0 ha hdb he hpl) tM_call
theorem px_call (G : FnOk X.prog X.w X.K X.mg X.base CX0 k f fd ps (spP X.w X.K fn)) (hr : Room k X.A) (hm : X.mg x = some (.ref f)) (hk : PySem.W.keepIn X.K (.ref f) = true) (hb : Binds X.K fd ps [])
    (ha : PXA X (e :: es) gl) (hg : Gl X x := by rfl) (hdb : (x == ("__debug__" : Str)) = false := by decide) (he : starEach (e :: es) X.env = (false, eval e X.env) :: starEach es X.env := by rfl) (hpl : (backTo pos (starEach es X.env)).any (·.1) = false := by rfl) :
    PX X (.Call (.Name x p) (e :: es) [] pos) (pA fn gl) := (pm_call G hr hm hk hb ha hg hdb he hpl).cast mA_pur
/-- a call of a def that may raise, where it does not -/
def okD (fr : List D → Option (Except Addr D)) : List D → Option D := fun ds => match fr ds with
  | some (.ok d) => some d
  | _ => none
theorem pm_callR (G : FnOk X.prog X.w X.K X.mg X.base (L2N.CX X.prog X.w) k f fd ps (spR X.w X.K fr)) (hr : Room k X.A) (hm : X.mg x = some (.ref f)) (hk : PySem.W.keepIn X.K (.ref f) = true) (hb : Binds X.K fd ps [])
    (ha : PMA X (e :: es) fl) (hg : Gl X x := by rfl) (hdb : (x == ("__debug__" : Str)) = false := by decide) (he : starEach (e :: es) X.env = (false, eval e X.env) :: starEach es X.env := by rfl) (hpl : (backTo pos (starEach es X.env)).any (·.1) = false := by rfl) :
    PM X (.Call (.Name x p) (e :: es) [] pos) (mA (okD fr) fl) := PE.mono (pe_call (E := E0) G hr hg hm hk hb .nil passN ha hdb he hpl) fun σ H Q h => by
  obtain ⟨Z, F0, F, δ, d, δ', st, hf, q⟩ := h
  obtain ⟨ds, δ1, h1, hf⟩ := bnd_some hf
  obtain ⟨hw, rfl⟩ := lft_some hf
  refine ⟨Z, F0, F, δ, ds, _, st, h1, fun vs F1 H1 e1 st1 r1 => ?_⟩
  dsimp only
  rw [List.append_nil]
  unfold okD at hw
  split at hw
  · rename_i d' e'
    cases hw
    exact ⟨F1, ds, .ok d, st1.ef, r1, e', fun v F' H' gw r => q v F' H' (e1.trans gw.f) (st1.grow gw) r⟩
  · cases hw
theorem px_callR (G : FnOk X.prog X.w X.K X.mg X.base (L2N.CX X.prog X.w) k f fd ps (spR X.w X.K fr)) (hr : Room k X.A) (hm : X.mg x = some (.ref f)) (hk : PySem.W.keepIn X.K (.ref f) = true) (hb : Binds X.K fd ps [])
    (ha : PXA X (e :: es) gl) (hg : Gl X x := by rfl) (hdb : (x == ("__debug__" : Str)) = false := by decide) (he : starEach (e :: es) X.env = (false, eval e X.env) :: starEach es X.env := by rfl) (hpl : (backTo pos (starEach es X.env)).any (·.1) = false := by rfl) :
    PX X (.Call (.Name x p) (e :: es) [] pos) (pA (okD fr) gl) := (pm_callR G hr hm hk hb ha hg hdb he hpl).cast mA_pur
end
end Pf

set_option Elab.async false
set_option linter.all false
set_option maxRecDepth 100000
set_option maxHeartbeats 4000000
namespace Pf
open PySem L2
section
variable {X : Cx} {w : World} {K : PySem.W.Frag}

/-! ### + -/
def rAddS : R2 := fun x y H Q => ∃ i j, x = .str i ∧ y = .str j ∧ i.length + j.length ≤ sizeLine ∧ Q (.str (i ++ j)) H
def rAdd (K : PySem.W.Frag) : R2 := orR (rI0 fun i j => .int (i + j)) (orR rAddS (orR (rCatA K) rCat))
theorem or_add : OpR X (binaryOp .Add) (rAdd X.K) := opR_or op_add (opR_or op_add_str (opR_or op_catA op_cat))
def addD : D → D → Option D
  | .int i, .int j => some (.int (i + j))
  | .str i, .str j => if i.length + j.length ≤ sizeLine then some (.str (i ++ j)) else none
  | .tuple i, .tuple j => if i.length + j.length ≤ sizeLine then some (.tuple (i ++ j)) else none
  | .list i, .list j => if i.length + j.length ≤ sizeLine then some (.list (i ++ j)) else none
  | _, _ => none
theorem od_add : OpD w K (rAdd K) addD := by
  intro F H x y a b d Q ex ra rb ho q
  unfold addD at ho
  split at ho
  · cases ho; cases ra; cases rb
    exact .inl ⟨_, _, rfl, rfl, q _ F H (Gw.refl ex) (.int _)⟩
  · split at ho
    · rename_i hl
      cases ho; cases ra; cases rb
      exact .inr (.inl ⟨_, _, rfl, rfl, hl, q _ F H (Gw.refl ex) (.str _)⟩)
    · cases ho
  · split at ho
    · rename_i i j hl
      cases ho
      cases ra with
      | tup h1 a1 =>
        rename_i p1 xs
        cases rb with
        | tup h2 a2 =>
          rename_i p2 ys
          refine .inr (.inr (.inl ⟨_, _, xs, ys, rfl, rfl, ex_t ex h1, ex_t ex h2, by rw [a1.length, a2.length]; exact hl, fun e => ?_, fun e e2 => ?_, fun e e2 p hp => ?_⟩))
          · subst e; cases a1; exact q _ F H (Gw.refl ex) (.tup h2 a2)
          · subst e2; cases a2; rw [List.append_nil] at q; exact q _ F H (Gw.refl ex) (.tup h1 a1)
          · have g := Gw.new (p := p) (o := .tup (xs ++ ys)) ex hp
            exact q _ _ _ g (.tup (SqT.of upd_same) ((a1.append a2).mono g.f))
    · cases ho
  · split at ho
    · rename_i i j hl
      cases ho
      cases ra with
      | lst h1 a1 =>
        rename_i p1 xs
        cases rb with
        | lst h2 a2 =>
          rename_i p2 ys
          refine .inr (.inr (.inr ⟨_, _, xs, ys, rfl, rfl, ex _ _ h1, ex _ _ h2, by rw [a1.length, a2.length]; exact hl, fun p hp => ?_⟩))
          have g := Gw.new (p := p) (o := .lst (xs ++ ys)) ex hp
          exact q _ _ _ g (.lst upd_same ((a1.append a2).mono g.f))
    · cases ho
  · cases ho
theorem px_add {a b : Expr} {ga gb : S → Option D} {pos : Pos} (ha : PX X a ga) (hb : PX X b gb) : PX X (.BinOp a .Add b pos) (p2 addD ga gb) := px_op or_add od_add ha hb
theorem pm_add {a b : Expr} {fa fb : M D} {pos : Pos} (ha : PM X a fa) (hb : PM X b fb) : PM X (.BinOp a .Add b pos) (m2 addD fa fb) := pm_op or_add od_add ha hb
/-! ### -, //, %, ** -/
def subD : D → D → Option D
  | .int i, .int j => some (.int (i - j))
  | _, _ => none
theorem od_I0 {g : Int → Int → Int} {op : D → D → Option D} (h : ∀ a b d, op a b = some d → ∃ i j, a = .int i ∧ b = .int j ∧ d = .int (g i j)) : OpD w K (rI0 fun i j => .int (g i j)) op := by
  intro F H x y a b d Q ex ra rb ho q
  obtain ⟨i, j, rfl, rfl, rfl⟩ := h a b d ho
  cases ra; cases rb
  exact ⟨_, _, rfl, rfl, q _ F H (Gw.refl ex) (.int _)⟩
theorem od_B0 {g : Int → Int → Bool} {op : D → D → Option D} (h : ∀ a b d, op a b = some d → ∃ i j, a = .int i ∧ b = .int j ∧ d = .bool (g i j)) : OpD w K (rI0 fun i j => .bl (g i j)) op := by
  intro F H x y a b d Q ex ra rb ho q
  obtain ⟨i, j, rfl, rfl, rfl⟩ := h a b d ho
  cases ra; cases rb
  exact ⟨_, _, rfl, rfl, q _ F H (Gw.refl ex) (.bl _)⟩
theorem od_I {C : Int → Int → Prop} {g : Int → Int → Int} {op : D → D → Option D} (h : ∀ a b d, op a b = some d → ∃ i j, a = .int i ∧ b = .int j ∧ C i j ∧ d = .int (g i j)) : OpD w K (rI C fun i j => .int (g i j)) op := by
  intro F H x y a b d Q ex ra rb ho q
  obtain ⟨i, j, rfl, rfl, hc, rfl⟩ := h a b d ho
  cases ra; cases rb
  exact ⟨_, _, rfl, rfl, hc, q _ F H (Gw.refl ex) (.int _)⟩
theorem od_sub : OpD w K (rI0 fun i j => .int (i - j)) subD := od_I0 fun a b d h => by
  unfold subD at h; split at h
  · cases h; exact ⟨_, _, rfl, rfl, rfl⟩
  · cases h
theorem px_sub {a b : Expr} {ga gb : S → Option D} {pos : Pos} (ha : PX X a ga) (hb : PX X b gb) : PX X (.BinOp a .Sub b pos) (p2 subD ga gb) := px_op op_sub od_sub ha hb
theorem pm_sub {a b : Expr} {fa fb : M D} {pos : Pos} (ha : PM X a fa) (hb : PM X b fb) : PM X (.BinOp a .Sub b pos) (m2 subD fa fb) := pm_op op_sub od_sub ha hb
def CDivL (i j : Int) : Prop := j ≠ 0 ∧ j.natAbs.log2 < 9000
instance {i j : Int} : Decidable (CDivL i j) := by unfold CDivL; infer_instance
theorem op_fdivL : OpR X (binaryOp .FloorDiv) (rI CDivL fun i j => .int (i.fdiv j)) := opI fun i j _ _ _ _ _ hc q => PyProof.Rows.floordiv_int hc.1 q (.inl (PyProof.noPylong_of_log2 hc.2))
def fdivD : D → D → Option D
  | .int i, .int j => if CDivL i j then some (.int (i.fdiv j)) else none
  | _, _ => none
theorem od_fdiv : OpD w K (rI CDivL fun i j => .int (i.fdiv j)) fdivD := od_I fun a b d h => by
  unfold fdivD at h; split at h
  · split at h
    · rename_i hc; cases h; exact ⟨_, _, rfl, rfl, hc, rfl⟩
    · cases h
  · cases h
theorem px_fdiv {a b : Expr} {ga gb : S → Option D} {pos : Pos} (ha : PX X a ga) (hb : PX X b gb) : PX X (.BinOp a .FloorDiv b pos) (p2 fdivD ga gb) := px_op op_fdivL od_fdiv ha hb
def modD : D → D → Option D
  | .int i, .int j => if j ≠ 0 then some (.int (i.fmod j)) else none
  | _, _ => none
theorem od_mod : OpD w K (rI (fun _ j => j ≠ 0) fun i j => .int (i.fmod j)) modD := od_I fun a b d h => by
  unfold modD at h; split at h
  · split at h
    · rename_i hc; cases h; exact ⟨_, _, rfl, rfl, hc, rfl⟩
    · cases h
  · cases h
theorem px_mod {a b : Expr} {ga gb : S → Option D} {pos : Pos} (ha : PX X a ga) (hb : PX X b gb) : PX X (.BinOp a .Mod b pos) (p2 modD ga gb) := px_op op_modN od_mod ha hb
instance {i j : Int} : Decidable (CPow i j) := by unfold CPow; infer_instance
def powD : D → D → Option D
  | .int i, .int j => if CPow i j then some (.int (i ^ j.toNat)) else none
  | _, _ => none
theorem od_pow : OpD w K (rI CPow fun i j => .int (i ^ j.toNat)) powD := od_I fun a b d h => by
  unfold powD at h; split at h
  · split at h
    · rename_i hc; cases h; exact ⟨_, _, rfl, rfl, hc, rfl⟩
    · cases h
  · cases h
theorem px_pow {a b : Expr} {ga gb : S → Option D} {pos : Pos} (ha : PX X a ga) (hb : PX X b gb) : PX X (.BinOp a .Pow b pos) (p2 powD ga gb) := px_op op_pow od_pow ha hb
def negD : D → Option D
  | .int i => some (.int (-i))
  | _ => none
theorem px_neg {a : Expr} {ga : S → Option D} {pos : Pos} (ha : PX X a ga) : PX X (.UnaryOp .USub a pos) (p1 negD ga) := px_un un_neg (fun F H x a d Q ex ra ho q => by
  unfold negD at ho; split at ho
  · cases ho; cases ra; exact ⟨_, rfl, q _ F H (Gw.refl ex) (.int _)⟩
  · cases ho) ha
/-! ### * -/
def rMulS : R2 := fun x y H Q => ∃ i n, x = .str i ∧ y = .int n ∧ MulOk i n ∧ Q (.str (Txt.mul i n)) H
theorem op_mulS : OpR X (binaryOp .Mult) rMulS := by
  intro pins s σ H x y v u Q I rx ry h
  obtain ⟨i, n, rfl, rfl, hc, q⟩ := h
  obtain ⟨t, rfl⟩ := rx
  obtain ⟨t', rfl⟩ := ry
  exact SB.mul hc fun t' k => ⟨.str _, H, I.tok _, ⟨_, rfl⟩, q⟩
def CMulA (i j : Int) : Prop := CMulW i j ∨ CMul i j
theorem op_mulA : OpR X (binaryOp .Mult) (rI CMulA fun i j => .int (i * j)) := opI fun _ _ _ _ _ _ _ hc q => PyProof.Rows.mul_int q (hc.elim (fun h => h.ok) fun h => h.ok)
def rMul (K : PySem.W.Frag) : R2 := orR (rI CMulA fun i j => .int (i * j)) (orR rMulS (orR rRep (rRepT K)))
theorem or_mul : OpR X (binaryOp .Mult) (rMul X.K) := opR_or op_mulA (opR_or op_mulS (opR_or op_rep op_repT))
instance {i j : Int} : Decidable (CMulA i j) := by unfold CMulA CMulW CMul; infer_instance
instance {x : Str} {n : Int} : Decidable (MulOk x n) := by unfold MulOk; infer_instance
def mulD : D → D → Option D
  | .int i, .int j => if CMulA i j then some (.int (i * j)) else none
  | .str i, .int n => if MulOk i n then some (.str (Txt.mul i n)) else none
  | .list l, .int k => if -(2 ^ 63) ≤ k ∧ k < 2 ^ 63 ∧ l.length * k.toNat ≤ sizeLine then some (.list (List.replicate k.toNat l).flatten) else none
  | .tuple l, .int k => if l ≠ [] ∧ 2 ≤ k ∧ k ≤ 1000 ∧ l.length ≤ 1000 then some (.tuple (List.replicate k.toNat l).flatten) else none
  | _, _ => none
theorem RpAll.rep {F : Hp} {v : List V} {d : List PyData} (h : RpAll w K F v d) : ∀ n, RpAll w K F (List.replicate n v).flatten (List.replicate n d).flatten
  | 0 => .nil
  | n + 1 => by
    rw [List.replicate_succ, List.replicate_succ, List.flatten_cons, List.flatten_cons]
    exact h.append (RpAll.rep h n)
theorem od_mul : OpD w K (rMul K) mulD := by
  intro F H x y a b d Q ex ra rb ho q
  unfold mulD at ho
  split at ho
  · split at ho
    · rename_i hc
      cases ho; cases ra; cases rb
      exact .inl ⟨_, _, rfl, rfl, hc, q _ F H (Gw.refl ex) (.int _)⟩
    · cases ho
  · split at ho
    · rename_i hc
      cases ho; cases ra; cases rb
      exact .inr (.inl ⟨_, _, rfl, rfl, hc, q _ F H (Gw.refl ex) (.str _)⟩)
    · cases ho
  · split at ho
    · rename_i hc
      cases ho
      cases rb
      cases ra with
      | lst h1 a1 =>
        rename_i p1 xs
        refine .inr (.inr (.inl ⟨_, _, xs, rfl, rfl, ex _ _ h1, hc.1, hc.2.1, by rw [a1.length]; exact hc.2.2, fun p hp => ?_⟩))
        exact q _ _ _ (Gw.new ex hp) (.lst upd_same ((a1.rep _).mono (Gw.new ex hp).f))
    · cases ho
  · split at ho
    · rename_i hc
      cases ho
      cases rb
      cases ra with
      | tup h1 a1 =>
        rename_i p1 xs
        refine .inr (.inr (.inr ⟨_, _, xs, rfl, rfl, ex_t ex h1, ?_, hc.2.1, hc.2.2.1, by rw [a1.length]; exact hc.2.2.2, fun p hp => ?_⟩))
        · intro e; subst e; cases a1; exact hc.1 rfl
        · exact q _ _ _ (Gw.new ex hp) (.tup (SqT.of upd_same) ((a1.rep _).mono (Gw.new ex hp).f))
    · cases ho
  · cases ho
theorem px_mul {a b : Expr} {ga gb : S → Option D} {pos : Pos} (ha : PX X a ga) (hb : PX X b gb) : PX X (.BinOp a .Mult b pos) (p2 mulD ga gb) := px_op or_mul od_mul ha hb
/-! ### comparisons -/
def eqD : D → D → Option D := fun a b => if SeqAt.shaped a && SeqAt.shaped b then some (.bool (PyData.eqv a b)) else none
def neD : D → D → Option D := fun a b => if SeqAt.shaped a && SeqAt.shaped b then some (.bool (!PyData.eqv a b)) else none
theorem od_eq : OpD w K (rEqD K) eqD := by
  intro F H x y a b d Q ex ra rb ho q
  unfold eqD at ho
  split at ho
  · rename_i hs
    rw [Bool.and_eq_true] at hs
    cases ho
    exact ⟨a, b, dp_mono ex (ra.dp (SeqAt.canLay_of_shaped hs.1)), dp_mono ex (rb.dp (SeqAt.canLay_of_shaped hs.2)), hs.1, hs.2, q _ F H (Gw.refl ex) (.bl _)⟩
  · cases ho
theorem od_ne : OpD w K (rNeD K) neD := by
  intro F H x y a b d Q ex ra rb ho q
  unfold neD at ho
  split at ho
  · rename_i hs
    rw [Bool.and_eq_true] at hs
    cases ho
    exact ⟨a, b, dp_mono ex (ra.dp (SeqAt.canLay_of_shaped hs.1)), dp_mono ex (rb.dp (SeqAt.canLay_of_shaped hs.2)), hs.1, hs.2, q _ F H (Gw.refl ex) (.bl _)⟩
  · cases ho
def cmpI (g : Int → Int → Bool) : D → D → Option D
  | .int i, .int j => some (.bool (g i j))
  | _, _ => none
theorem od_cmpI {g : Int → Int → Bool} : OpD w K (rI0 fun i j => .bl (g i j)) (cmpI g) := od_B0 fun a b d h => by
  unfold cmpI at h; split at h
  · cases h; exact ⟨_, _, rfl, rfl, rfl⟩
  · cases h
def ltD : D → D → Option D := cmpI fun i j => decide (i < j)
def leD : D → D → Option D := cmpI fun i j => decide (i ≤ j)
def gtD : D → D → Option D := cmpI fun i j => decide (j < i)
def geD : D → D → Option D := cmpI fun i j => decide (j ≤ i)
theorem od_lt : OpD w K (rI0 fun i j => .bl (decide (i < j))) ltD := od_cmpI
theorem od_le : OpD w K (rI0 fun i j => .bl (decide (i ≤ j))) leD := od_cmpI
theorem od_gt : OpD w K (rI0 fun i j => .bl (decide (j < i))) gtD := od_cmpI
theorem od_ge : OpD w K (rI0 fun i j => .bl (decide (j ≤ i))) geD := od_cmpI
/-- is None, is True .. -/
def rIs : R2 := orR (fun x y H Q => y = .non ∧ Q (.bl (decide (x = .non))) H) rIsB
def rIsNot : R2 := orR (fun x y H Q => y = .non ∧ Q (.bl (!decide (x = .non))) H) rNotB
theorem or_is : OpR X (compareOp .Is) rIs := opR_or op_isN op_isBl
theorem or_isNot : OpR X (compareOp .IsNot) rIsNot := opR_or op_notN op_notBl
def isNone : D → Bool
  | .none => true
  | _ => false
def isD : D → D → Option D
  | a, .none => some (.bool (isNone a))
  | .bool a, .bool b => some (.bool (decide (a = b)))
  | _, _ => none
def isNotD : D → D → Option D
  | a, .none => some (.bool (!isNone a))
  | .bool a, .bool b => some (.bool (!decide (a = b)))
  | _, _ => none
theorem isNone_dec {F : Hp} {x : V} {a : D} (r : Rp w K F x a) : decide (x = .non) = isNone a := by
  cases r <;> simp [isNone]
theorem od_is : OpD w K rIs isD := by
  intro F H x y a b d Q ex ra rb ho q
  unfold isD at ho
  split at ho
  · cases ho; cases rb
    exact .inl ⟨rfl, by rw [isNone_dec ra]; exact q _ F H (Gw.refl ex) (.bl _)⟩
  · cases ho; cases ra; cases rb
    exact .inr ⟨_, _, rfl, rfl, q _ F H (Gw.refl ex) (.bl _)⟩
  · cases ho
theorem od_isNot : OpD w K rIsNot isNotD := by
  intro F H x y a b d Q ex ra rb ho q
  unfold isNotD at ho
  split at ho
  · cases ho; cases rb
    exact .inl ⟨rfl, by rw [isNone_dec ra]; exact q _ F H (Gw.refl ex) (.bl _)⟩
  · cases ho; cases ra; cases rb
    exact .inr ⟨_, _, rfl, rfl, q _ F H (Gw.refl ex) (.bl _)⟩
  · cases ho
/-- in, not in: one sign in a text; data in a list or tuple -/
def rInU (K : PySem.W.Frag) : R2 := fun x y H Q => ∃ d ds, Dp K H x d ∧ Dp K H y (.tuple ds) ∧ SeqAt.shaped d = true ∧ SeqAt.shaped (.tuple ds) = true ∧ Q (.bl (ds.any fun z => PyData.eqv z d)) H
def rNotInU (K : PySem.W.Frag) : R2 := fun x y H Q => ∃ d ds, Dp K H x d ∧ Dp K H y (.tuple ds) ∧ SeqAt.shaped d = true ∧ SeqAt.shaped (.tuple ds) = true ∧ Q (.bl (!ds.any fun z => PyData.eqv z d)) H
theorem op_inU (hu : X.A.units + 65 < cLine) : OpR X (compareOp .In) (rInU X.K) := by
  intro pins s σ H x y v u Q I rx ry h
  obtain ⟨d, ds, hd, he, sd, se, q⟩ := h
  obtain ⟨as, r1⟩ := Dp.reads I d x v hd rx
  obtain ⟨bs, r2⟩ := Dp.reads I (.tuple ds) y u he ry
  exact SeqAt.in_tuple_reads r2 r1 (SeqAt.canLay_of_shaped se) (SeqAt.canLay_of_shaped sd) (PyProof.Rows.room_in_shaped sd hu) ⟨.bl _, H, I, rfl, q⟩
theorem op_notInU (hu : X.A.units + 65 < cLine) : OpR X (compareOp .NotIn) (rNotInU X.K) := by
  intro pins s σ H x y v u Q I rx ry h
  obtain ⟨d, ds, hd, he, sd, se, q⟩ := h
  obtain ⟨as, r1⟩ := Dp.reads I d x v hd rx
  obtain ⟨bs, r2⟩ := Dp.reads I (.tuple ds) y u he ry
  exact SeqAt.notIn_tuple_reads r2 r1 (SeqAt.canLay_of_shaped se) (SeqAt.canLay_of_shaped sd) (PyProof.Rows.room_in_shaped sd hu) ⟨.bl _, H, I, rfl, q⟩
def rInS : R2 := fun x y H Q => ∃ (c : Nat) (z : Str), x = .str ⟨#[c]⟩ ∧ y = .str z ∧ Q (.bl (decide (c ∈ z.cps.toList))) H
def rNotInS : R2 := fun x y H Q => ∃ (c : Nat) (z : Str), x = .str ⟨#[c]⟩ ∧ y = .str z ∧ Q (.bl (!decide (c ∈ z.cps.toList))) H
def rInA (K : PySem.W.Frag) : R2 := orR rInS (orR (rInD K) (rInU K))
def rNotInA (K : PySem.W.Frag) : R2 := orR rNotInS (orR (rNotInD K) (rNotInU K))
theorem or_in (hu : X.A.units + 65 < cLine) : OpR X (compareOp .In) (rInA X.K) := opR_or op_in_sign (opR_or (op_inD hu) (op_inU hu))
theorem or_notIn (hu : X.A.units + 65 < cLine) : OpR X (compareOp .NotIn) (rNotInA X.K) := opR_or op_notIn_sign (opR_or (op_notInD hu) (op_notInU hu))
def inB : D → D → Option Bool
  | .str ⟨⟨[c]⟩⟩, .str z => some (decide (c ∈ z.cps.toList))
  | d, .list ds => if SeqAt.shaped d && SeqAt.shaped (.list ds) then some (ds.any fun z => PyData.eqv z d) else none
  | d, .tuple ds => if SeqAt.shaped d && SeqAt.shaped (.tuple ds) then some (ds.any fun z => PyData.eqv z d) else none
  | _, _ => none
def inD : D → D → Option D := fun a b => (inB a b).map .bool
def notInD : D → D → Option D := fun a b => (inB a b).map fun k => .bool (!k)
theorem od_in : OpD w K (rInA K) inD := by
  intro F H x y a b d Q ex ra rb ho q
  unfold inD at ho
  cases hb : inB a b with
  | none => rw [hb] at ho; cases ho
  | some k =>
    rw [hb] at ho
    cases ho
    unfold inB at hb
    split at hb
    · cases hb; cases ra; cases rb
      exact .inl ⟨_, _, rfl, rfl, q _ F H (Gw.refl ex) (.bl _)⟩
    · split at hb
      · rename_i hs
        rw [Bool.and_eq_true] at hs
        cases hb
        exact .inr (.inl ⟨_, _, dp_mono ex (ra.dp (SeqAt.canLay_of_shaped hs.1)), dp_mono ex (rb.dp (SeqAt.canLay_of_shaped hs.2)), hs.1, hs.2, q _ F H (Gw.refl ex) (.bl _)⟩)
      · cases hb
    · split at hb
      · rename_i hs
        rw [Bool.and_eq_true] at hs
        cases hb
        exact .inr (.inr ⟨_, _, dp_mono ex (ra.dp (SeqAt.canLay_of_shaped hs.1)), dp_mono ex (rb.dp (SeqAt.canLay_of_shaped hs.2)), hs.1, hs.2, q _ F H (Gw.refl ex) (.bl _)⟩)
      · cases hb
    · cases hb
theorem od_notIn : OpD w K (rNotInA K) notInD := by
  intro F H x y a b d Q ex ra rb ho q
  unfold notInD at ho
  cases hb : inB a b with
  | none => rw [hb] at ho; cases ho
  | some k =>
    rw [hb] at ho
    cases ho
    unfold inB at hb
    split at hb
    · cases hb; cases ra; cases rb
      exact .inl ⟨_, _, rfl, rfl, q _ F H (Gw.refl ex) (.bl _)⟩
    · split at hb
      · rename_i hs
        rw [Bool.and_eq_true] at hs
        cases hb
        exact .inr (.inl ⟨_, _, dp_mono ex (ra.dp (SeqAt.canLay_of_shaped hs.1)), dp_mono ex (rb.dp (SeqAt.canLay_of_shaped hs.2)), hs.1, hs.2, q _ F H (Gw.refl ex) (.bl _)⟩)
      · cases hb
    · split at hb
      · rename_i hs
        rw [Bool.and_eq_true] at hs
        cases hb
        exact .inr (.inr ⟨_, _, dp_mono ex (ra.dp (SeqAt.canLay_of_shaped hs.1)), dp_mono ex (rb.dp (SeqAt.canLay_of_shaped hs.2)), hs.1, hs.2, q _ F H (Gw.refl ex) (.bl _)⟩)
      · cases hb
    · cases hb
/-! ### built-in functions -/
def rLen (K : PySem.W.Frag) : List V → Hp → VK → Prop := orC (fun xs H Q => ∃ p ys, xs = [.ref p] ∧ (SqL K H p ys ∨ SqT K H p ys) ∧ Q (.int ys.length) H) (fun xs H Q => ∃ z, xs = [.str z] ∧ z.length ≤ sizeLine ∧ Q (.int z.length) H)
theorem cr_len : CallR X (.builtin "len") (rLen X.K) := callR_or call_len_seq call_len_str
def lenD : List D → Option D
  | [.list l] => some (.int l.length)
  | [.tuple l] => some (.int l.length)
  | [.str z] => if z.length ≤ sizeLine then some (.int z.length) else none
  | _ => none
theorem cd_len : CallD w K (rLen K) lenD := by
  intro F H xs as d Q ex ra ho q
  unfold lenD at ho
  split at ho
  · cases ho
    cases ra with
    | cons r1 r2 => cases r2; cases r1 with
      | lst h a => exact .inl ⟨_, _, rfl, .inl (SqL.of (ex _ _ h)), by rw [a.length]; exact q _ F H (Gw.refl ex) (.int _)⟩
  · cases ho
    cases ra with
    | cons r1 r2 => cases r2; cases r1 with
      | tup h a => exact .inl ⟨_, _, rfl, .inr (ex_t ex h), by rw [a.length]; exact q _ F H (Gw.refl ex) (.int _)⟩
  · split at ho
    · rename_i hl
      cases ho
      cases ra with
      | cons r1 r2 => cases r2; cases r1; exact .inr ⟨_, rfl, hl, q _ F H (Gw.refl ex) (.int _)⟩
    · cases ho
  · cases ho
/-- a list of boolsOf, of intsOf -/
def boolsOf : List D → Option (List Bool)
  | [] => some []
  | .bool b :: r => (boolsOf r).map (b :: ·)
  | _ => none
def intsOf : List D → Option (List Int)
  | [] => some []
  | .int i :: r => (intsOf r).map (i :: ·)
  | _ => none
def strsOf : List D → Option (List Str)
  | [] => some []
  | .str i :: r => (strsOf r).map (i :: ·)
  | _ => none
theorem rp_bools {F : Hp} : ∀ {v : List V} {d : List D} {bs : List Bool}, RpAll w K F v d → boolsOf d = some bs → v = bs.map V.bl
  | _, _, _, .nil, h => by cases h; rfl
  | _, _, _, .cons r t, h => by
    cases r with
    | bl b =>
      unfold boolsOf at h
      rename_i vs ds
      cases e : boolsOf ds with
      | none => rw [e] at h; cases h
      | some bs => rw [e] at h; cases h; rw [rp_bools t e]; rfl
    | _ => cases h
theorem rp_ints {F : Hp} : ∀ {v : List V} {d : List D} {bs : List Int}, RpAll w K F v d → intsOf d = some bs → v = bs.map V.int
  | _, _, _, .nil, h => by cases h; rfl
  | _, _, _, .cons r t, h => by
    cases r with
    | int b =>
      unfold intsOf at h
      rename_i vs ds
      cases e : intsOf ds with
      | none => rw [e] at h; cases h
      | some bs => rw [e] at h; cases h; rw [rp_ints t e]; rfl
    | _ => cases h
theorem rp_strs {F : Hp} : ∀ {v : List V} {d : List D} {bs : List Str}, RpAll w K F v d → strsOf d = some bs → v = bs.map V.str
  | _, _, _, .nil, h => by cases h; rfl
  | _, _, _, .cons r t, h => by
    cases r with
    | str b =>
      unfold strsOf at h
      rename_i vs ds
      cases e : strsOf ds with
      | none => rw [e] at h; cases h
      | some bs => rw [e] at h; cases h; rw [rp_strs t e]; rfl
    | _ => cases h
theorem rp_ofStrs {F : Hp} : ∀ (ys : List Str), RpAll w K F (ys.map V.str) (ys.map PyData.str)
  | [] => .nil
  | y :: ys => .cons (.str y) (rp_ofStrs ys)
def allD : List D → Option D
  | [.list l] => (boolsOf l).map fun bs => .bool (bs.all id)
  | _ => none
def anyD : List D → Option D
  | [.list l] => (boolsOf l).map fun bs => .bool (bs.any id)
  | _ => none
def sumD : List D → Option D
  | [.list l] => (intsOf l).map fun bs => .int bs.sum
  | _ => none
theorem cd_all : CallD w K (rAll K) allD := by
  intro F H xs as d Q ex ra ho q
  unfold allD at ho
  split at ho
  · rename_i l
    cases e : boolsOf l with
    | none => rw [e] at ho; cases ho
    | some bs =>
      rw [e] at ho; cases ho
      cases ra with
      | cons r1 r2 => cases r2; cases r1 with
        | lst h a => rw [rp_bools a e] at h; exact ⟨_, bs, rfl, SqL.of (ex _ _ h), q _ F H (Gw.refl ex) (.bl _)⟩
  · cases ho
theorem cd_any : CallD w K (rAny K) anyD := by
  intro F H xs as d Q ex ra ho q
  unfold anyD at ho
  split at ho
  · rename_i l
    cases e : boolsOf l with
    | none => rw [e] at ho; cases ho
    | some bs =>
      rw [e] at ho; cases ho
      cases ra with
      | cons r1 r2 => cases r2; cases r1 with
        | lst h a => rw [rp_bools a e] at h; exact ⟨_, bs, rfl, SqL.of (ex _ _ h), q _ F H (Gw.refl ex) (.bl _)⟩
  · cases ho
theorem cd_sum : CallD w K (rSum K) sumD := by
  intro F H xs as d Q ex ra ho q
  unfold sumD at ho
  split at ho
  · rename_i l
    cases e : intsOf l with
    | none => rw [e] at ho; cases ho
    | some bs =>
      rw [e] at ho; cases ho
      cases ra with
      | cons r1 r2 => cases r2; cases r1 with
        | lst h a => rw [rp_ints a e] at h; exact ⟨_, bs, rfl, SqL.of (ex _ _ h), q _ F H (Gw.refl ex) (.int _)⟩
  · cases ho
/-- int(text) -/
def intD : List D → Option D
  | [.str z] => if z.length ≤ 640 then (PySem.intText? z).map .int else none
  | _ => none
def rIntS : List V → Hp → VK → Prop := fun xs H Q => ∃ a n, xs = [.str a] ∧ PySem.intText? a = some n ∧ a.length ≤ 640 ∧ Q (.int n) H
theorem cd_int : CallD w K rIntS intD := by
  intro F H xs as d Q ex ra ho q
  unfold intD at ho
  split at ho
  · split at ho
    · rename_i z hl
      cases e : PySem.intText? z with
      | none => rw [e] at ho; cases ho
      | some n =>
        rw [e] at ho; cases ho
        cases ra with
        | cons r1 r2 => cases r2; cases r1; exact ⟨_, n, rfl, e, hl, q _ F H (Gw.refl ex) (.int _)⟩
    · cases ho
  · cases ho
/-- tuple(..), list(..) -/
def tupleD : List D → Option D
  | [.list l] => some (.tuple l)
  | [.tuple l] => some (.tuple l)
  | _ => none
def listD : List D → Option D
  | [.list l] => some (.list l)
  | [.tuple l] => some (.list l)
  | _ => none
def rTuple (K : PySem.W.Frag) : List V → Hp → VK → Prop := fun xs H Q => ∃ p ys, xs = [.ref p] ∧ ((SqL K H p ys ∧ ∀ l, H l = none → Q (.ref l) (upd H l (.tup ys))) ∨ (SqT K H p ys ∧ Q (.ref p) H))
def rList (K : PySem.W.Frag) : List V → Hp → VK → Prop := fun xs H Q => ∃ p ys, xs = [.ref p] ∧ (SqL K H p ys ∨ SqT K H p ys) ∧ ∀ l, H l = none → Q (.ref l) (upd H l (.lst ys))
theorem cd_tuple : CallD w K (rTuple K) tupleD := by
  intro F H xs as d Q ex ra ho q
  unfold tupleD at ho
  split at ho
  · cases ho
    cases ra with
    | cons r1 r2 => cases r2; cases r1 with
      | lst h a =>
        rename_i p vs
        refine ⟨_, vs, rfl, .inl ⟨SqL.of (ex _ _ h), fun p hp => ?_⟩⟩
        have g := Gw.new (p := p) (o := .tup vs) ex hp
        exact q _ _ _ g (.tup (SqT.of upd_same) (a.mono g.f))
  · cases ho
    cases ra with
    | cons r1 r2 => cases r2; cases r1 with
      | tup h a => exact ⟨_, _, rfl, .inr ⟨ex_t ex h, q _ F H (Gw.refl ex) (.tup h a)⟩⟩
  · cases ho
theorem cd_list : CallD w K (rList K) listD := by
  intro F H xs as d Q ex ra ho q
  unfold listD at ho
  split at ho
  · cases ho
    cases ra with
    | cons r1 r2 => cases r2; cases r1 with
      | lst h a =>
        rename_i p vs
        refine ⟨_, vs, rfl, .inl (SqL.of (ex _ _ h)), fun p hp => ?_⟩
        have g := Gw.new (p := p) (o := .lst vs) ex hp
        exact q _ _ _ g (.lst upd_same (a.mono g.f))
  · cases ho
    cases ra with
    | cons r1 r2 => cases r2; cases r1 with
      | tup h a =>
        rename_i p vs
        refine ⟨_, vs, rfl, .inr (ex_t ex h), fun p hp => ?_⟩
        have g := Gw.new (p := p) (o := .lst vs) ex hp
        exact q _ _ _ g (.lst upd_same (a.mono g.f))
  · cases ho
/-! ### subscripts -/
def ixD : D → D → Option D
  | .list l, .int i => atI l i
  | .tuple l, .int i => atI l i
  | .str z, .int i => if z.length ≤ sizeLine then (atI z.cps.toList i).map sgn else none
  | _, _ => none
theorem RpAll.atI {F : Hp} {v : List V} {d : List D} {i : Int} {x : D} (r : RpAll w K F v d) (h : atI d i = some x) : ∃ u, L2.atI v i = some u ∧ Rp w K F u x := by
  unfold L2.atI at h ⊢
  rw [r.length]
  cases e : ixN d.length i with
  | none => rw [e] at h; cases h
  | some j => rw [e] at h; exact r.get h
theorem od_ix : OpD w K (rIx K) ixD := by
  intro F H x y a b d Q ex ra rb ho q
  unfold ixD at ho
  split at ho
  · cases rb
    cases ra with
    | lst h a =>
      obtain ⟨u, h1, h2⟩ := a.atI ho
      exact .inl ⟨_, _, _, u, rfl, rfl, SqL.of (ex _ _ h), h1, q _ F H (Gw.refl ex) h2⟩
  · cases rb
    cases ra with
    | tup h a =>
      obtain ⟨u, h1, h2⟩ := a.atI ho
      exact .inr (.inl ⟨_, _, _, u, rfl, rfl, ex_t ex h, h1, q _ F H (Gw.refl ex) h2⟩)
  · split at ho
    · rename_i hl
      rename_i z i
      cases e : L2.atI z.cps.toList i with
      | none => rw [e] at ho; cases ho
      | some c =>
        rw [e] at ho; cases ho; cases ra; cases rb
        exact .inr (.inr ⟨_, _, c, rfl, rfl, hl, e, q _ F H (Gw.refl ex) (.str _)⟩)
    · cases ho
  · cases ho
theorem px_at {a b : Expr} {ga gb : S → Option D} {pos : Pos} (ha : PX X a ga) (hb : PX X b gb) (hs : PlainIx b := by exact fun _ _ => rfl) : PX X (.Subscript a b pos) (p2 ixD ga gb) := px_ix ix_seq od_ix ha hb hs
theorem pm_at {a b : Expr} {fa fb : M D} {pos : Pos} (ha : PM X a fa) (hb : PM X b fb) (hs : PlainIx b := by exact fun _ _ => rfl) : PM X (.Subscript a b pos) (m2 ixD fa fb) := pm_ix ix_seq od_ix ha hb hs
end
end Pf

set_option Elab.async false
set_option linter.all false
set_option maxRecDepth 100000
set_option maxHeartbeats 4000000
namespace Pf
open PySem L2

/-! ### slices -/
def tMO (w : World) (K : PySem.W.Frag) (f : M (Option Int)) : TO := fun σ H Q => ∃ Z F0 F δ d δ', StR w K Z F0 δ σ F H ∧ f δ = some (d, δ') ∧ ∀ F' H', Ex F F' → StR w K Z F0 δ' σ F' H' → Q d H'
abbrev PMO (X : Cx) (o : Option Expr) (f : M (Option Int)) : Prop := PO X o (tMO X.w X.K f)
section
variable {X : Cx} {e : Expr} {f : M D} {g : S → Option D}
theorem PO.mono {o : Option Expr} {t t' : TO} (h : PO X o t) (m : ∀ σ H Q, t' σ H Q → t σ H Q) : PO X o t' := ⟨fun pins s σ H Q I q => h.run pins s σ H Q I (m σ H Q q)⟩
def intO : D → Option (Option Int)
  | .int i => some (some i)
  | _ => none
def mPart (f : M D) : M (Option Int) := bnd f fun d => lft (intO d)
def pPart (f : S → Option D) : S → Option (Option Int) := fun δ => (f δ).bind intO
theorem mPart_pur : mPart (pur g) = pur (pPart g) := by
  funext δ; unfold mPart bnd pur lft pPart; dsimp only; cases h : g δ <;> rfl
theorem pmo_none : PMO X none (ret none) := PO.mono po_none fun σ H Q => by
  rintro ⟨Z, F0, F, δ, d, δ', st, hf, q⟩
  cases hf
  exact q F H (Ex.refl F) st
theorem pmo_some (h : PM X e f) : PMO X (some e) (mPart f) := PO.mono (po_some h) fun σ H Q => by
  rintro ⟨Z, F0, F, δ, d, δ', st, hf, q⟩
  obtain ⟨x, δ1, h1, hf⟩ := bnd_some hf
  obtain ⟨hw, rfl⟩ := lft_some hf
  refine ⟨Z, F0, F, δ, x, _, st, h1, fun v F' H' ex st' r => ?_⟩
  cases r with
  | int i => cases hw; exact ⟨_, rfl, q F' H' ex st'⟩
  | _ => cases hw
abbrev PXO (X : Cx) (o : Option Expr) (f : S → Option (Option Int)) : Prop := PMO X o (pur f)
theorem pxo_none : PXO X none (fun _ => some none) := pmo_none
theorem PMO.cast {o : Option Expr} {f f' : M (Option Int)} (h : PMO X o f) (q : f = f') : PMO X o f' := q ▸ h
theorem pxo_some (h : PX X e g) : PXO X (some e) (pPart g) := PMO.cast (pmo_some h) mPart_pur
def mSl (op : D → Option Int → Option Int → Option D) (fe : M D) (fl fh : M (Option Int)) : M D := bnd fe fun x => bnd fl fun l => bnd fh fun h => lft (op x l h)
def pSl (op : D → Option Int → Option Int → Option D) (fe : S → Option D) (fl fh : S → Option (Option Int)) : S → Option D := fun δ => (fe δ).bind fun x => (fl δ).bind fun l => (fh δ).bind fun h => op x l h
theorem mSl_pur {op fe fl fh} : mSl op (pur fe) (pur fl) (pur fh) = pur (pSl op fe fl fh) := by
  funext δ; unfold mSl bnd pur lft pSl; dsimp only
  cases h1 : fe δ with
  | none => rfl
  | some x =>
    dsimp only
    cases h2 : fl δ with
    | none => rfl
    | some l => dsimp only; cases h3 : fh δ <;> rfl
theorem pm_slice {r : V → Option Int → Option Int → Hp → VK → Prop} {op : D → Option Int → Option Int → Option D} {lo hi : Option Expr} {fl fh : M (Option Int)} {p2 pos : Pos} (hr : L2.SlR X r) (hd : SlD X.w X.K r op) (he : PM X e f) (hl : PMO X lo fl) (hu : PMO X hi fh) : PM X (.Subscript e (.Slice lo hi none p2) pos) (mSl op f fl fh) :=
  PE.mono (pe_slice hr he hl hu) fun σ H Q => by
    rintro ⟨Z, F0, F, δ, d, δ', st, hf, q⟩
    obtain ⟨x, δ1, h1, hf⟩ := bnd_some hf
    obtain ⟨l, δ2, h2, hf⟩ := bnd_some hf
    obtain ⟨u, δ3, h3, hf⟩ := bnd_some hf
    obtain ⟨hw, rfl⟩ := lft_some hf
    refine ⟨Z, F0, F, δ, x, δ1, st, h1, fun v F1 H1 e1 st1 r1 => ⟨Z, F0, F1, δ1, l, δ2, st1, h2, fun F2 H2 e2 st2 => ⟨Z, F0, F2, δ2, u, _, st2, h3, fun F3 H3 e3 st3 => ?_⟩⟩⟩
    exact hd F3 H3 v l u x d Q st3.ef (r1.mono (e2.trans e3)) hw fun v F' H' gw r => q v F' H' (((e1.trans e2).trans e3).trans gw.f) (st3.grow gw) r
def cutD (l : List D) (lo hi : Option Int) : List D := (l.drop (HT.sIx l.length 0 lo)).take (HT.sIx l.length l.length hi - HT.sIx l.length 0 lo)
theorem RpAll.cut {w : World} {K : PySem.W.Frag} {F : Hp} {v : List V} {d : List D} (r : RpAll w K F v d) (lo hi : Option Int) : RpAll w K F (cutV v lo hi) (cutD d lo hi) := by
  unfold cutV cutD
  rw [r.length]
  exact (r.drop _).take _
def slD : D → Option Int → Option Int → Option D
  | .list l, lo, hi => some (.list (cutD l lo hi))
  | .tuple l, lo, hi => some (.tuple (cutD l lo hi))
  | .str z, lo, hi => if z.length ≤ sizeLine then some (.str (cutS z lo hi)) else none
  | _, _, _ => none
def rSlU (K : PySem.W.Frag) : V → Option Int → Option Int → Hp → VK → Prop := fun x lo hi H Q => rSlL K x lo hi H Q ∨ (rSlA K x lo hi H Q ∨ rSlS x lo hi H Q)
theorem or_sl : L2.SlR X (rSlU X.K) := L2.SlR.or sl_list (L2.SlR.or sl_tupA sl_str)
theorem sd_sl {w : World} {K : PySem.W.Frag} : SlD w K (rSlU K) slD := by
  intro F H x lo hi a d Q ex ra ho q
  unfold slD at ho
  split at ho
  · cases ho
    cases ra with
    | lst h a =>
      refine .inl ⟨_, _, rfl, SqL.of (ex _ _ h), fun p hp => ?_⟩
      exact q _ _ _ (Gw.new ex hp) (.lst upd_same ((a.cut lo hi).mono (Gw.new ex hp).f))
  · cases ho
    cases ra with
    | tup h a =>
      rename_i p xs
      refine .inr (.inl ⟨_, _, rfl, ex_t ex h, fun hw => ?_, fun hw p hp => ?_⟩)
      · have e : cutV xs lo hi = xs := by
          unfold cutV
          rw [hw.1, hw.2]
          simp
        have := a.cut lo hi
        rw [e] at this
        exact q _ F H (Gw.refl ex) (.tup h this)
      · exact q _ _ _ (Gw.new ex hp) (.tup (SqT.of upd_same) ((a.cut lo hi).mono (Gw.new ex hp).f))
  · split at ho
    · rename_i hl
      cases ho; cases ra
      exact .inr (.inr ⟨_, rfl, hl, q _ F H (Gw.refl ex) (.str _)⟩)
    · cases ho
  · cases ho
theorem pm_sl {lo hi : Option Expr} {fl fh : M (Option Int)} {p2 pos : Pos} (he : PM X e f) (hl : PMO X lo fl) (hu : PMO X hi fh) : PM X (.Subscript e (.Slice lo hi none p2) pos) (mSl slD f fl fh) := pm_slice or_sl sd_sl he hl hu
theorem px_sl {lo hi : Option Expr} {fl fh : S → Option (Option Int)} {p2 pos : Pos} (he : PX X e g) (hl : PXO X lo fl) (hu : PXO X hi fh) : PX X (.Subscript e (.Slice lo hi none p2) pos) (pSl slD g fl fh) := (pm_sl he hl hu).cast mSl_pur
end

/-! ### methods of texts -/
def MsD (w : World) (K : PySem.W.Frag) (r : V → List V → Hp → VK → Prop) (op : D → List D → Option D) : Prop := ∀ (F H : Hp) (a : Str) (xs : List V) (as : List D) (d : D) (Q : VK), Ex F H → RpAll w K F xs as → op (.str a) as = some d →
  (∀ v F' H', Gw F H F' H' → Rp w K F' v d → Q v H') → r (.str a) xs H Q
section
variable {X : Cx} {o e : Expr} {fo fe : M D} {go ge : S → Option D} {id : String} {name : Str} {apos pos : Pos} {r : V → List V → Hp → VK → Prop} {op : D → List D → Option D}
def strOnly (op : D → List D → Option D) : D → List D → Option D := fun a as => match a with
  | .str z => op (.str z) as
  | _ => none
theorem pm_s1 (slot : Slot "str" name id) (ty : typeOf (.builtin id) = pure (.type "method_descriptor")) (rule : MtR X id r) (hd : MsD X.w X.K r op) (ho : PM X o fo) (he : PM X e fe)
    (hs : starEach [e] X.env = [(false, eval e X.env)] := by rfl) (hbase : attributeBase o name X.env (eval o X.env) = eval o X.env := by rfl) (hline : (apos.endLine == pos.line) = true := by rfl) :
    PM X (.Call (.Attribute o name apos) [e] [] pos) (m2 (fun a b => strOnly op a [b]) fo fe) := PE.mono (pe_m1 slot ty rule ho he hs hbase hline) fun σ H Q => by
  rintro ⟨Z, F0, F, δ, d, δ', st, hf, q⟩
  obtain ⟨x, δ1, h1, hf⟩ := bnd_some hf
  obtain ⟨y, δ2, h2, hf⟩ := bnd_some hf
  obtain ⟨hw, rfl⟩ := lft_some hf
  refine ⟨Z, F0, F, δ, x, δ1, st, h1, fun v1 F1 H1 e1 st1 r1 => ?_⟩
  cases r1 with
  | str z => exact ⟨⟨z, rfl⟩, Z, F0, F1, δ1, y, _, st1, h2, fun v2 F2 H2 e2 st2 r2 => hd F2 H2 z [v2] [y] d Q st2.ef (.cons r2 .nil) hw fun v F' H' gw r => q v F' H' ((e1.trans e2).trans gw.f) (st2.grow gw) r⟩
  | _ => cases hw
theorem px_s1 (slot : Slot "str" name id) (ty : typeOf (.builtin id) = pure (.type "method_descriptor")) (rule : MtR X id r) (hd : MsD X.w X.K r op) (ho : PX X o go) (he : PX X e ge)
    (hs : starEach [e] X.env = [(false, eval e X.env)] := by rfl) (hbase : attributeBase o name X.env (eval o X.env) = eval o X.env := by rfl) (hline : (apos.endLine == pos.line) = true := by rfl) :
    PX X (.Call (.Attribute o name apos) [e] [] pos) (p2 (fun a b => strOnly op a [b]) go ge) := (pm_s1 slot ty rule hd ho he hs hbase hline).cast m2_pur
theorem px_s0 (slot : Slot "str" name id) (ty : typeOf (.builtin id) = pure (.type "method_descriptor")) (rule : MtR X id r) (hd : MsD X.w X.K r op) (ho : PX X o go)
    (hbase : attributeBase o name X.env (eval o X.env) = eval o X.env := by rfl) (hline : (apos.endLine == pos.line) = true := by rfl) :
    PX X (.Call (.Attribute o name apos) [] [] pos) (p1 (fun a => strOnly op a []) go) := PE.mono (pe_m0 slot ty rule ho hbase hline) fun σ H Q => by
  rintro ⟨Z, F0, F, δ, d, δ', st, hf, q⟩
  obtain ⟨hf, rfl⟩ := pur_some hf
  unfold p1 at hf
  cases h1 : go δ' with
  | none => rw [h1] at hf; cases hf
  | some x =>
    rw [h1] at hf
    refine ⟨Z, F0, F, δ', x, δ', st, pur_of h1, fun v1 F1 H1 e1 st1 r1 => ?_⟩
    cases r1 with
    | str z => exact ⟨⟨z, rfl⟩, hd F1 H1 z [] [] d Q st1.ef .nil hf fun v F' H' gw r => q v F' H' (e1.trans gw.f) (st1.grow gw) r⟩
    | _ => cases hf
def joinD : D → List D → Option D
  | .str a, [.list l] => (strsOf l).bind fun ys => if (ys.map (·.length)).sum + ys.length * a.length ≤ 16777216 then some (.str (Txt.join a ys)) else none
  | .str a, [.tuple l] => (strsOf l).bind fun ys => if (ys.map (·.length)).sum + ys.length * a.length ≤ 16777216 then some (.str (Txt.join a ys)) else none
  | _, _ => none
def rJoin (K : PySem.W.Frag) : V → List V → Hp → VK → Prop := fun x xs H Q => ∃ a p, ∃ ys : List Str, x = .str a ∧ xs = [.ref p] ∧ (SqL K H p (ys.map V.str) ∨ SqT K H p (ys.map V.str)) ∧
    (ys.map (·.length)).sum + ys.length * a.length ≤ 16777216 ∧ Q (.str (Txt.join a ys)) H
theorem md_join {w : World} {K : PySem.W.Frag} : MsD w K (rJoin K) joinD := by
  intro F H a xs as d Q ex ra ho q
  unfold joinD at ho
  split at ho
  · rename_i l hh
    cases hh
    cases e : strsOf l with
    | none => rw [e] at ho; cases ho
    | some ys =>
      rw [e, Option.bind_some] at ho
      split at ho
      · rename_i hl
        cases ho
        cases ra with
        | cons r1 r2 => cases r2; cases r1 with
          | lst h ra => rw [rp_strs ra e] at h; exact ⟨_, _, ys, rfl, rfl, .inl (SqL.of (ex _ _ h)), hl, q _ F H (Gw.refl ex) (.str _)⟩
      · cases ho
  · rename_i l hh
    cases hh
    cases e : strsOf l with
    | none => rw [e] at ho; cases ho
    | some ys =>
      rw [e, Option.bind_some] at ho
      split at ho
      · rename_i hl
        cases ho
        cases ra with
        | cons r1 r2 => cases r2; cases r1 with
          | tup h ra => rw [rp_strs ra e] at h; exact ⟨_, _, ys, rfl, rfl, .inr (ex_t ex h), hl, q _ F H (Gw.refl ex) (.str _)⟩
      · cases ho
  · cases ho
def splitD : D → List D → Option D
  | .str a, [.str b] => if b.length ≠ 0 ∧ a.length + 2 ≤ sizeLine then some (.list ((Txt.split a b).map .str)) else none
  | _, _ => none
def rSplit : V → List V → Hp → VK → Prop := fun x xs H Q => ∃ a b, x = .str a ∧ xs = [.str b] ∧ (b.length == 0) = false ∧ a.length + 2 ≤ sizeLine ∧ rNewStrs (Txt.split a b) H Q
theorem md_split {w : World} {K : PySem.W.Frag} : MsD w K rSplit splitD := by
  intro F H a xs as d Q ex ra ho q
  unfold splitD at ho
  split at ho
  · rename_i hh
    cases hh
    split at ho
    · rename_i hl
      cases ho
      cases ra with
      | cons r1 r2 => cases r2; cases r1; exact ⟨_, _, rfl, rfl, by simpa using hl.1, hl.2, fun p hp => q _ _ _ (Gw.new ex hp) (.lst upd_same (rp_ofStrs _))⟩
    · cases ho
  · cases ho
def partD : D → List D → Option D
  | .str a, [.str b] => if b.length ≠ 0 ∧ a.length ≤ sizeLine then some (.tuple [.str (Txt.partition a b).1, .str (Txt.partition a b).2.1, .str (Txt.partition a b).2.2]) else none
  | _, _ => none
def rPart : V → List V → Hp → VK → Prop := fun x xs H Q => ∃ a b, x = .str a ∧ xs = [.str b] ∧ (b.length == 0) = false ∧ a.length ≤ sizeLine ∧
    ∀ p, H p = none → Q (.ref p) (upd H p (.tup [.str (Txt.partition a b).1, .str (Txt.partition a b).2.1, .str (Txt.partition a b).2.2]))
theorem md_part {w : World} {K : PySem.W.Frag} : MsD w K rPart partD := by
  intro F H a xs as d Q ex ra ho q
  unfold partD at ho
  split at ho
  · rename_i hh
    cases hh
    split at ho
    · rename_i hl
      cases ho
      cases ra with
      | cons r1 r2 => cases r2; cases r1; exact ⟨_, _, rfl, rfl, by simpa using hl.1, hl.2, fun p hp => q _ _ _ (Gw.new ex hp) (.tup (SqT.of upd_same) (.cons (.str _) (.cons (.str _) (.cons (.str _) .nil))))⟩
    · cases ho
  · cases ho
theorem px_join (ho : PX X o go) (he : PX X e ge) (hs : starEach [e] X.env = [(false, eval e X.env)] := by rfl) (hbase : attributeBase o "join" X.env (eval o X.env) = eval o X.env := by rfl) (hline : (apos.endLine == pos.line) = true := by rfl) :
    PX X (.Call (.Attribute o "join" apos) [e] [] pos) (p2 (fun a b => strOnly joinD a [b]) go ge) := px_s1 F.slot_str_join F.type_str_join mt_join md_join ho he hs hbase hline
theorem pm_join (ho : PM X o fo) (he : PM X e fe) (hs : starEach [e] X.env = [(false, eval e X.env)] := by rfl) (hbase : attributeBase o "join" X.env (eval o X.env) = eval o X.env := by rfl) (hline : (apos.endLine == pos.line) = true := by rfl) :
    PM X (.Call (.Attribute o "join" apos) [e] [] pos) (m2 (fun a b => strOnly joinD a [b]) fo fe) := pm_s1 F.slot_str_join F.type_str_join mt_join md_join ho he hs hbase hline
theorem px_split (ho : PX X o go) (he : PX X e ge) (hs : starEach [e] X.env = [(false, eval e X.env)] := by rfl) (hbase : attributeBase o "split" X.env (eval o X.env) = eval o X.env := by rfl) (hline : (apos.endLine == pos.line) = true := by rfl) :
    PX X (.Call (.Attribute o "split" apos) [e] [] pos) (p2 (fun a b => strOnly splitD a [b]) go ge) := px_s1 F.slot_str_split F.type_str_split mt_split md_split ho he hs hbase hline
theorem px_part (ho : PX X o go) (he : PX X e ge) (hs : starEach [e] X.env = [(false, eval e X.env)] := by rfl) (hbase : attributeBase o "partition" X.env (eval o X.env) = eval o X.env := by rfl) (hline : (apos.endLine == pos.line) = true := by rfl) :
    PX X (.Call (.Attribute o "partition" apos) [e] [] pos) (p2 (fun a b => strOnly partD a [b]) go ge) := px_s1 F.slot_str_partition F.type_str_partition mt_partition md_part ho he hs hbase hline
def upperD : D → List D → Option D
  | .str a, [] => if a.length ≤ 5592405 then some (.str (Txt.upper a)) else none
  | _, _ => none
theorem md_upper {w : World} {K : PySem.W.Frag} : MsD w K (fun x xs H Q => ∃ a, x = .str a ∧ xs = [] ∧ a.length ≤ 5592405 ∧ Q (.str (Txt.upper a)) H) upperD := by
  intro F H a xs as d Q ex ra ho q
  unfold upperD at ho
  split at ho
  · rename_i hh
    cases hh
    split at ho
    · rename_i hl
      cases ho; cases ra
      exact ⟨_, rfl, rfl, hl, q _ F H (Gw.refl ex) (.str _)⟩
    · cases ho
  · cases ho
theorem px_upper (ho : PX X o go) (hbase : attributeBase o "upper" X.env (eval o X.env) = eval o X.env := by rfl) (hline : (apos.endLine == pos.line) = true := by rfl) :
    PX X (.Call (.Attribute o "upper" apos) [] [] pos) (p1 (fun a => strOnly upperD a []) go) := px_s0 F.slot_str_upper F.type_str_upper mt_upper md_upper ho hbase hline
end

/-! ### isinstance(x, T) -/
def tyD : D → Option String
  | .none => some "NoneType"
  | .bool _ => some "bool"
  | .int _ => some "int"
  | .str _ => some "str"
  | .list _ => some "list"
  | .tuple _ => some "tuple"
  | .dict _ => none
def isiD (T : String) : D → Option D := fun d => (tyD d).bind fun t => (kitB t T).map .bool
theorem tyX_of {w : World} {K : PySem.W.Frag} {F H : Hp} {x : V} {d : D} {t : String} (ex : Ex F H) (r : Rp w K F x d) (h : tyD d = some t) : TyX K H x (.type t) := by
  cases r with
  | non => cases h; exact .base .non
  | bl b => cases h; exact .base (.bl b)
  | int i => cases h; exact .base (.int i)
  | str z => cases h; exact .base (.str z)
  | lst q a => cases h; exact .base (.lst (ex _ _ q))
  | tup q a =>
    cases h
    rcases q with (q | ⟨o, q⟩) | ⟨o, its, n, q, c, _⟩
    · exact .base (.tup (ex _ _ q))
    · exact .fTuple (ex _ _ q)
    · exact .kTuple q c
  | dic q a => cases h
section
variable {X : Cx} {e : Expr} {f : M D} {g : S → Option D} {x y : Str} {T : String} {p p2 pos : Pos}
theorem pm_isi (hm : X.mg "isinstance" = none) (hm2 : X.mg y = none) (hv2 : bootBuiltins y = some (.type T)) (he : PM X e f) (hg : Gl X "isinstance" := by rfl) (hg2 : Gl X y := by rfl) (hn2 : y ≠ "__name__" := by decide) (hdb2 : (y == ("__debug__" : Str)) = false := by decide)
    (h1 : starEach (e :: [.Name y p2]) X.env = (false, eval e X.env) :: starEach [.Name y p2] X.env := by rfl) (h2 : (backTo pos (starEach [.Name y p2] X.env)).any (·.1) = false := by rfl) :
    PM X (.Call (.Name "isinstance" p) [e, .Name y p2] [] pos) (m1 (isiD T) f) := by
  have ha : PA X [e, .Name y p2] (tCons (tM X.w X.K f) (tCons (tC (.ty T)) tNil)) := pa_cons he (pa_cons (pe_bltn hg2 hm2 hv2 rfl hn2 hdb2) pa_nil) h1
  refine PE.mono (pe_callB call_isi hg hm (by decide +kernel) ha (by decide) (by decide) h1 h2) fun σ H Q => ?_
  rintro ⟨Z, F0, F, δ, d, δ', st, hf, q⟩
  obtain ⟨z, δ1, h1, hf⟩ := bnd_some hf
  obtain ⟨hw, rfl⟩ := lft_some hf
  refine ⟨Z, F0, F, δ, z, _, st, h1, fun v F1 H1 e1 st1 r1 => ?_⟩
  unfold isiD at hw
  cases ht : tyD z with
  | none => rw [ht] at hw; cases hw
  | some t =>
    rw [ht, Option.bind_some] at hw
    cases hk : kitB t T with
    | none => rw [hk] at hw; cases hw
    | some b =>
      rw [hk] at hw; cases hw
      exact ⟨v, .ty T, .type t, .type T, b, rfl, .ty T, tyX_of st1.ef r1 ht, kit_ty hk, q _ F1 H1 e1 st1 (.bl _)⟩
theorem px_isi (hm : X.mg "isinstance" = none) (hm2 : X.mg y = none) (hv2 : bootBuiltins y = some (.type T)) (he : PX X e g) (hg : Gl X "isinstance" := by rfl) (hg2 : Gl X y := by rfl) (hn2 : y ≠ "__name__" := by decide) (hdb2 : (y == ("__debug__" : Str)) = false := by decide)
    (h1 : starEach (e :: [.Name y p2]) X.env = (false, eval e X.env) :: starEach [.Name y p2] X.env := by rfl) (h2 : (backTo pos (starEach [.Name y p2] X.env)).any (·.1) = false := by rfl) :
    PX X (.Call (.Name "isinstance" p) [e, .Name y p2] [] pos) (p1 (isiD T) g) := (pm_isi hm hm2 hv2 he hg hg2 hn2 hdb2 h1 h2).cast m1_pur
end
end Pf

set_option Elab.async false
set_option linter.all false
set_option maxRecDepth 100000
set_option maxHeartbeats 4000000
namespace Pf
open PySem L2

/-! ### the defs of a program's top -/
/-- the def st stands under the name x -/
structure IsDef (K : PySem.W.Frag) (mg : Str → Option Value) (x : Str) (st : Stmt) : Prop where
  ex : ∃ f fd kws, FunD K x x (defArgs st) (defBody st) (defScope st) [] kws f fd ∧ mg x = some (.ref f)
/-- the name x holds a def that computes fn -/
structure DefP (P : Program) (w : World) (K : PySem.W.Frag) (mg : Str → Option Value) (base : Heap) (k : Nat) (x : Str) (fn : List D → Option D) : Prop where
  ex : ∃ f fd ps, FnOk P w K mg base CX0 k f fd ps (spP w K fn) ∧ mg x = some (.ref f) ∧ PySem.W.keepIn K (.ref f) = true ∧ Binds K fd ps []
/-- the name x holds a def that computes fn, or raises -/
structure DefR (P : Program) (w : World) (K : PySem.W.Frag) (mg : Str → Option Value) (base : Heap) (k : Nat) (x : Str) (fn : List D → Option (Except Addr D)) : Prop where
  ex : ∃ f fd ps, FnOk P w K mg base (L2N.CX P w) k f fd ps (spR w K fn) ∧ mg x = some (.ref f) ∧ PySem.W.keepIn K (.ref f) = true ∧ Binds K fd ps []
section
variable {P : Program} {w : World} {K : PySem.W.Frag} {mg : Str → Option Value} {base : Heap}
theorem DefP.mono {j k : Nat} {x : Str} {fn : List D → Option D} (F : DefP P w K mg base j x fn) (h : j ≤ k) : DefP P w K mg base k x fn := by
  obtain ⟨f, fd, ps, G, r⟩ := F.ex
  exact ⟨f, fd, ps, G.mono h, r⟩
theorem DefR.mono {j k : Nat} {x : Str} {fn : List D → Option (Except Addr D)} (F : DefR P w K mg base j x fn) (h : j ≤ k) : DefR P w K mg base k x fn := by
  obtain ⟨f, fd, ps, G, r⟩ := F.ex
  exact ⟨f, fd, ps, G.mono h, r⟩
/-- a smaller function -/
theorem DefP.imp {k : Nat} {x : Str} {fn fn' : List D → Option D} (F : DefP P w K mg base k x fn) (h : ∀ ds d, fn' ds = some d → fn ds = some d) : DefP P w K mg base k x fn' := by
  obtain ⟨f, fd, ps, G, r⟩ := F.ex
  exact ⟨f, fd, ps, G.imp fun vs H Q E ⟨F1, ds, d, ex, ra, e, q⟩ => ⟨F1, ds, d, ex, ra, h ds d e, q⟩, r⟩
theorem DefR.imp {k : Nat} {x : Str} {fn fn' : List D → Option (Except Addr D)} (F : DefR P w K mg base k x fn) (h : ∀ ds d, fn' ds = some d → fn ds = some d) : DefR P w K mg base k x fn' := by
  obtain ⟨f, fd, ps, G, r⟩ := F.ex
  exact ⟨f, fd, ps, G.imp fun vs H Q E ⟨F1, ds, d, ex, ra, e, q⟩ => ⟨F1, ds, d, ex, ra, h ds d e, q⟩, r⟩
/-- a body as a function of the arguments -/
def runP (N ps : List Str) (g : S → Option Out) : List D → Option D := fun ds => if ds.length = ps.length then (g (initS N ds)).bind outP else none
def runR (N ps : List Str) (g : S → Option Out) : List D → Option (Except Addr D) := fun ds => if ds.length = ps.length then (g (initS N ds)).bind outR else none
theorem runP_some {N ps : List Str} {g : S → Option Out} {ds : List D} {d : D} (h : runP N ps g ds = some d) : ds.length = ps.length ∧ (g (initS N ds)).bind outP = some d := by
  unfold runP at h
  split at h
  · rename_i e; exact ⟨e, h⟩
  · cases h
theorem runR_some {N ps : List Str} {g : S → Option Out} {ds : List D} {d : Except Addr D} (h : runR N ps g ds = some d) : ds.length = ps.length ∧ (g (initS N ds)).bind outR = some d := by
  unfold runR at h
  split at h
  · rename_i e; exact ⟨e, h⟩
  · cases h
theorem def_pure {x : Str} {st : Stmt} {N ps : List Str} {k : Nat} {g : S → Option Out} (I : IsDef K mg x st) (S : FnScope N ps (defScope st))
    (bn : ∀ (kV doc pm : Value) (an : Option Addr) (cdv ct : Value) (us : List Value), us.length = ps.length → bindArgs (PySem.W.fnOf x x (defArgs st) (defBody st) (defScope st) .none kV doc pm an cdv ct) ⟨us, []⟩ = pure (ps.zip us))
    (hb : ∀ (f : Addr) (cdv : Value) (A : Around) (outer : List Env) (s : Shared) (H : Hp) (E : XK), Room k (A.deeper (PyProof.Rows.envOfC x (defScope st) s.heap.objs.size f cdv)) → PMSs (cxOf CX0 P w K mg base N x (defScope st) f cdv A outer s H E).nox W0 (defBody st) g) :
    DefP P w K mg base (k + 1) x (runP N ps g) := by
  obtain ⟨f, fd, kws, F, hm⟩ := I.ex
  refine ⟨f, fd, ps, F.ok S (fun vs H Q E h => ?_) (fun cdv A outer s H vs Q E hr h => ?_), hm, F.kp, F.bindsN bn⟩
  · obtain ⟨F1, ds, d, _, r, e, _⟩ := h
    rw [r.length]; exact (runP_some e).1
  · refine ⟨_, (hb f cdv A outer s H E hr).nox, ?_⟩
    obtain ⟨F1, ds, d, ex, r, e, q⟩ := h
    have ho := (runP_some e).2
    cases eo : g (initS N ds) with
    | none => rw [eo] at ho; cases ho
    | some o =>
      rw [eo] at ho
      refine ⟨H, F1, F1, initS N ds, o, StR.init ex r, eo, ?_⟩
      cases o with
      | rt d' δ' => cases ho; exact fun v σ' F' H' _ st rr => q v F' H' st.gw rr
      | nx δ' => cases ho; exact fun σ' F' H' _ st => q .non F' H' st.gw .non
      | _ => cases ho
theorem def_raise {x : Str} {st : Stmt} {N ps : List Str} {k : Nat} {g : S → Option Out} (I : IsDef K mg x st) (S : FnScope N ps (defScope st))
    (bn : ∀ (kV doc pm : Value) (an : Option Addr) (cdv ct : Value) (us : List Value), us.length = ps.length → bindArgs (PySem.W.fnOf x x (defArgs st) (defBody st) (defScope st) .none kV doc pm an cdv ct) ⟨us, []⟩ = pure (ps.zip us))
    (hb : ∀ (f : Addr) (cdv : Value) (A : Around) (outer : List Env) (s : Shared) (H : Hp) (E : XK), Room k (A.deeper (PyProof.Rows.envOfC x (defScope st) s.heap.objs.size f cdv)) → PMSs (cxOf (L2N.CX P w) P w K mg base N x (defScope st) f cdv A outer s H E) (fun c d _ H => E c d H) (defBody st) g) :
    DefR P w K mg base (k + 1) x (runR N ps g) := by
  obtain ⟨f, fd, kws, F, hm⟩ := I.ex
  refine ⟨f, fd, ps, F.ok S (fun vs H Q E h => ?_) (fun cdv A outer s H vs Q E hr h => ?_), hm, F.kp, F.bindsN bn⟩
  · obtain ⟨F1, ds, d, _, r, e, _⟩ := h
    rw [r.length]; exact (runR_some e).1
  · refine ⟨_, hb f cdv A outer s H E hr, ?_⟩
    obtain ⟨F1, ds, d, ex, r, e, q⟩ := h
    have ho := (runR_some e).2
    cases eo : g (initS N ds) with
    | none => rw [eo] at ho; cases ho
    | some o =>
      rw [eo] at ho
      refine ⟨H, F1, F1, initS N ds, o, StR.init ex r, eo, ?_⟩
      cases o with
      | rt d' δ' => cases ho; exact fun v σ' F' H' _ st rr => q v F' H' st.gw rr
      | nx δ' => cases ho; exact fun σ' F' H' _ st => q .non F' H' st.gw .non
      | er c δ' => cases ho; exact fun σ' F' H' _ st => q F' H' st.gw
      | _ => cases ho
end
section
variable {X : Cx} {W : WX} {j k : Nat} {x : Str} {p pos : Pos} {e : Expr} {es : List Expr} {fl : M (List D)} {gl : S → Option (List D)} {fn : List D → Option D} {fr : List D → Option (Except Addr D)}
theorem pm_def (G : DefP X.prog X.w X.K X.mg X.base j x fn) (hr : Room k X.A) (ha : PMA X (e :: es) fl) (hjk : j ≤ k := by decide) (hg : Gl X x := by rfl) (hdb : (x == ("__debug__" : Str)) = false := by decide) (he : starEach (e :: es) X.env = (false, eval e X.env) :: starEach es X.env := by rfl) (hpl : (backTo pos (starEach es X.env)).any (·.1) = false := by rfl) :
    PM X (.Call (.Name x p) (e :: es) [] pos) (mA fn fl) := by
  obtain ⟨f, fd, ps, G, hm, hk, hb⟩ := G.ex
  exact pm_call G (hr.mono hjk) hm hk hb ha hg hdb he hpl
theorem px_def (G : DefP X.prog X.w X.K X.mg X.base j x fn) (hr : Room k X.A) (ha : PXA X (e :: es) gl) (hjk : j ≤ k := by decide) (hg : Gl X x := by rfl) (hdb : (x == ("__debug__" : Str)) = false := by decide) (he : starEach (e :: es) X.env = (false, eval e X.env) :: starEach es X.env := by rfl) (hpl : (backTo pos (starEach es X.env)).any (·.1) = false := by rfl) :
    PX X (.Call (.Name x p) (e :: es) [] pos) (pA fn gl) := (pm_def G hr ha hjk hg hdb he hpl).cast mA_pur
theorem pm_defR (G : DefR X.prog X.w X.K X.mg X.base j x fr) (hr : Room k X.A) (ha : PMA X (e :: es) fl) (hjk : j ≤ k := by decide) (hg : Gl X x := by rfl) (hdb : (x == ("__debug__" : Str)) = false := by decide) (he : starEach (e :: es) X.env = (false, eval e X.env) :: starEach es X.env := by rfl) (hpl : (backTo pos (starEach es X.env)).any (·.1) = false := by rfl) :
    PM X (.Call (.Name x p) (e :: es) [] pos) (mA (okD fr) fl) := by
  obtain ⟨f, fd, ps, G, hm, hk, hb⟩ := G.ex
  exact pm_callR G (hr.mono hjk) hm hk hb ha hg hdb he hpl
theorem px_defR (G : DefR X.prog X.w X.K X.mg X.base j x fr) (hr : Room k X.A) (ha : PXA X (e :: es) gl) (hjk : j ≤ k := by decide) (hg : Gl X x := by rfl) (hdb : (x == ("__debug__" : Str)) = false := by decide) (he : starEach (e :: es) X.env = (false, eval e X.env) :: starEach es X.env := by rfl) (hpl : (backTo pos (starEach es X.env)).any (·.1) = false := by rfl) :
    PX X (.Call (.Name x p) (e :: es) [] pos) (pA (okD fr) gl) := (pm_defR G hr ha hjk hg hdb he hpl).cast mA_pur
end
end Pf
namespace Pf
open PySem L2
section
variable {X : Cx} {x : Str} {pos : Pos}
theorem px_globS {z : Str} (h : ∃ t, X.mg x = some (.str z t)) (hg : Gl X x := by rfl) (hd : (x == ("__debug__" : Str)) = false := by decide) : PX X (.Name x pos) (fun _ => some (.str z)) := by
  obtain ⟨t, h⟩ := h
  exact px_glob h (v := .str z) ⟨t, rfl⟩ (fun F => .str z) hg hd
theorem px_globI {i : Int} (h : ∃ t, X.mg x = some (.int i t)) (hg : Gl X x := by rfl) (hd : (x == ("__debug__" : Str)) = false := by decide) : PX X (.Name x pos) (fun _ => some (.int i)) := by
  obtain ⟨t, h⟩ := h
  exact px_glob h (v := .int i) ⟨t, rfl⟩ (fun F => .int i) hg hd
theorem px_globK {d : D} (h : ∃ v u, X.mg x = some u ∧ RelV v u ∧ ∀ F, Rp X.w X.K F v d) (hg : Gl X x := by rfl) (hd : (x == ("__debug__" : Str)) = false := by decide) : PX X (.Name x pos) (fun _ => some d) := by
  obtain ⟨v, u, h, r, rp⟩ := h
  exact px_glob h r rp hg hd
end
end Pf

set_option Elab.async false
set_option linter.all false
set_option maxRecDepth 100000
set_option maxHeartbeats 4000000
namespace Pf
open PySem L2

/-! ### evaluating readings -/
@[simp] theorem ev_pur {α : Type} (f : S → Option α) (δ : S) : pur f δ = (f δ).map fun a => (a, δ) := by
  unfold pur; cases f δ <;> rfl
@[simp] theorem ev_lft {α : Type} (o : Option α) (δ : S) : lft o δ = o.map fun a => (a, δ) := by
  unfold lft; cases o <;> rfl
@[simp] theorem ev_ret {α : Type} (a : α) (δ : S) : ret a δ = some (a, δ) := rfl
@[simp] theorem ev_bnd {α β : Type} (m : M α) (k : α → M β) (δ : S) : bnd m k δ = (m δ).bind fun p => k p.1 p.2 := by
  unfold bnd; cases m δ <;> rfl
@[simp] theorem ev_retO (f : M D) (δ : S) : retO f δ = (f δ).map fun p => Out.rt p.1 p.2 := by
  unfold retO; cases f δ <;> rfl
@[simp] theorem ev_dropO (f : M D) (δ : S) : dropO f δ = (f δ).map fun p => Out.nx p.2 := by
  unfold dropO; cases f δ <;> rfl
@[simp] theorem ev_asgO (f : M D) (t : D → S → Option S) (δ : S) : asgO f t δ = (f δ).bind fun p => (t p.1 p.2).map Out.nx := by
  unfold asgO
  cases f δ with
  | none => rfl
  | some p => simp only [Option.bind_some]; cases t p.1 p.2 <;> rfl
@[simp] theorem ev_putS (i : Nat) (d : D) (δ : S) : putS i d δ = some (δ.set i (.im d)) := rfl
@[simp] theorem ev_ifO (c : M Bool) (g h : S → Option Out) (δ : S) : ifO c g h δ = (c δ).bind fun p => if p.1 then g p.2 else h p.2 := by
  unfold ifO
  cases c δ with
  | none => rfl
  | some p => obtain ⟨b, δ'⟩ := p; cases b <;> rfl
def thenO (h : S → Option Out) : Out → Option Out
  | .nx δ' => h δ'
  | r => some r
@[simp] theorem ev_thenNx (h : S → Option Out) (δ : S) : thenO h (.nx δ) = h δ := rfl
@[simp] theorem ev_thenRt (h : S → Option Out) (d : D) (δ : S) : thenO h (.rt d δ) = some (.rt d δ) := rfl
@[simp] theorem ev_thenBk (h : S → Option Out) (δ : S) : thenO h (.bk δ) = some (.bk δ) := rfl
@[simp] theorem ev_thenCt (h : S → Option Out) (δ : S) : thenO h (.ct δ) = some (.ct δ) := rfl
@[simp] theorem ev_thenEr (h : S → Option Out) (c : Addr) (δ : S) : thenO h (.er c δ) = some (.er c δ) := rfl
@[simp] theorem ev_seqO (g h : S → Option Out) (δ : S) : seqO g h δ = (g δ).bind (thenO h) := by
  unfold seqO
  cases g δ with
  | none => rfl
  | some o => cases o <;> rfl
@[simp] theorem ev_p1 (op : D → Option D) (f : S → Option D) (δ : S) : p1 op f δ = (f δ).bind op := rfl
@[simp] theorem ev_p2 (op : D → D → Option D) (f g : S → Option D) (δ : S) : p2 op f g δ = (f δ).bind fun x => (g δ).bind fun y => op x y := rfl
@[simp] theorem ev_pA (op : List D → Option D) (f : S → Option (List D)) (δ : S) : pA op f δ = (f δ).bind op := rfl
@[simp] theorem ev_pCons (f : S → Option D) (g : S → Option (List D)) (δ : S) : pCons f g δ = (f δ).bind fun x => (g δ).bind fun xs => some (x :: xs) := rfl
@[simp] theorem ev_pNil (δ : S) : pNil δ = some [] := rfl
@[simp] theorem ev_pIf (c : S → Option Bool) (f g : S → Option D) (δ : S) : pIf c f g δ = (c δ).bind fun b => if b then f δ else g δ := rfl
def andD (g : Option D) : D → Option D
  | .bool true => g
  | .bool false => some (.bool false)
  | _ => none
def orD (g : Option D) : D → Option D
  | .bool false => g
  | .bool true => some (.bool true)
  | _ => none
def testD : D → Option Bool
  | .bool b => some b
  | _ => none
@[simp] theorem ev_andT (g : Option D) : andD g (.bool true) = g := rfl
@[simp] theorem ev_andF (g : Option D) : andD g (.bool false) = some (.bool false) := rfl
@[simp] theorem ev_orT (g : Option D) : orD g (.bool true) = some (.bool true) := rfl
@[simp] theorem ev_orF (g : Option D) : orD g (.bool false) = g := rfl
@[simp] theorem ev_testB (b : Bool) : testD (.bool b) = some b := rfl
theorem ev_andB (b : Bool) (g : Option D) : andD g (.bool b) = if b then g else some (.bool false) := by cases b <;> rfl
theorem ev_orB (b : Bool) (g : Option D) : orD g (.bool b) = if b then some (.bool true) else g := by cases b <;> rfl
@[simp] theorem ev_pAnd (f g : S → Option D) (δ : S) : pAnd f g δ = (f δ).bind (andD (g δ)) := by
  unfold pAnd
  cases f δ with
  | none => rfl
  | some x => cases x with
    | bool b => cases b <;> rfl
    | _ => rfl
@[simp] theorem ev_pOr (f g : S → Option D) (δ : S) : pOr f g δ = (f δ).bind (orD (g δ)) := by
  unfold pOr
  cases f δ with
  | none => rfl
  | some x => cases x with
    | bool b => cases b <;> rfl
    | _ => rfl
@[simp] theorem ev_pTest (f : S → Option D) (δ : S) : pTest f δ = (f δ).bind testD := by
  unfold pTest
  cases f δ with
  | none => rfl
  | some x => cases x <;> rfl
@[simp] theorem ev_pAndT (f g : S → Option Bool) (δ : S) : pAndT f g δ = (f δ).bind fun b => if b then g δ else some false := rfl
@[simp] theorem ev_pOrT (f g : S → Option Bool) (δ : S) : pOrT f g δ = (f δ).bind fun b => if b then some true else g δ := rfl
@[simp] theorem ev_pNotT (f : S → Option Bool) (δ : S) : pNotT f δ = (f δ).map (!·) := rfl
def chD (k : Option D) : D → Option D
  | .bool true => k
  | .bool false => some (.bool false)
  | _ => none
@[simp] theorem ev_chT (g : Option D) : chD g (.bool true) = g := rfl
@[simp] theorem ev_chF (g : Option D) : chD g (.bool false) = some (.bool false) := rfl
@[simp] theorem ev_pChain (op op' : D → D → Option D) (fa fb fc : S → Option D) (δ : S) : pChain op op' fa fb fc δ = (fa δ).bind fun x => (fb δ).bind fun y => (op x y).bind (chD ((fc δ).bind fun u => op' y u)) := by
  unfold pChain
  cases fa δ with
  | none => rfl
  | some x =>
    cases fb δ with
    | none => rfl
    | some y =>
      simp only [Option.bind_some]
      cases op x y with
      | none => rfl
      | some z => cases z with
        | bool b => cases b <;> rfl
        | _ => rfl
@[simp] theorem ev_pIter (f : S → Option D) (δ : S) : pIter f δ = (f δ).bind iterD := rfl
@[simp] theorem ev_pIterS (f : S → Option D) (δ : S) : pIterS f δ = (f δ).bind iterS := rfl
@[simp] theorem ev_pLst (op : List D → Option (List D)) (f : S → Option (List D)) (δ : S) : pLst op f δ = (f δ).bind op := rfl
@[simp] theorem ev_pSl (op : D → Option Int → Option Int → Option D) (fe : S → Option D) (fl fh : S → Option (Option Int)) (δ : S) : pSl op fe fl fh δ = (fe δ).bind fun x => (fl δ).bind fun l => (fh δ).bind fun h => op x l h := rfl
@[simp] theorem ev_pPart (f : S → Option D) (δ : S) : pPart f δ = (f δ).bind intO := rfl
@[simp] theorem ev_intO (i : Int) : intO (.int i) = some (some i) := rfl
@[simp] theorem ev_pChk (f : S → Option (List D)) (δ : S) : pChk f δ = (f δ).bind fun ds => if ds.length ≤ sizeLine then some ds else none := by
  unfold pChk; cases f δ <;> rfl
@[simp] theorem ev_pLc (fi : S → Option (List D)) (t : D → S → Option S) (c : S → Option Bool) (e : S → Option D) (vs : List Nat) (δ : S) : pLc fi t c e vs δ = (fi δ).bind fun ds => if noOw δ vs then (lcP t c e (wipeS δ vs) ds).bind fun xs => some (.list xs) else none := rfl
@[simp] theorem ev_lc0 (t : D → S → Option S) (c : S → Option Bool) (e : S → Option D) (δ : S) : lcP t c e δ [] = some [] := rfl
theorem lc_map {i : Nat} {e : S → Option D} {δ : S} (f : D → D) : ∀ {ds : List D}, (∀ d ∈ ds, e (δ.set i (.im d)) = some (f d)) → lcP (putS i) (fun _ => some true) e δ ds = some (ds.map f)
  | [], _ => rfl
  | d :: ds, h => by
    unfold lcP
    simp only [ev_putS, Option.bind_some, if_true]
    rw [h d (by simp), Option.bind_some, lc_map f fun x hx => h x (by simp [hx])]
    rfl
theorem lc_filter {i : Nat} {c : S → Option Bool} {e : S → Option D} {δ : S} (g : D → Bool) (f : D → D) : ∀ {ds : List D}, (∀ d ∈ ds, c (δ.set i (.im d)) = some (g d)) → (∀ d ∈ ds, g d = true → e (δ.set i (.im d)) = some (f d)) → lcP (putS i) c e δ ds = some ((ds.filter g).map f)
  | [], _, _ => rfl
  | d :: ds, h, h2 => by
    unfold lcP
    simp only [ev_putS, Option.bind_some]
    rw [h d (by simp), Option.bind_some]
    have ih := lc_filter g f (ds := ds) (fun x hx => h x (by simp [hx])) fun x hx => h2 x (by simp [hx])
    cases hg : g d with
    | true => simp only [if_true]; rw [h2 d (by simp) hg, Option.bind_some, ih]; simp [List.filter_cons, hg]
    | false => simp only [Bool.false_eq_true, if_false]; rw [ih]; simp [List.filter_cons, hg]
/-- a target of any kind -/
theorem lc_mapG {t : D → S → Option S} {e : S → Option D} {δ : S} (δ1 : D → S) (f : D → D) : ∀ {ds : List D}, (∀ d ∈ ds, t d δ = some (δ1 d)) → (∀ d ∈ ds, e (δ1 d) = some (f d)) → lcP t (fun _ => some true) e δ ds = some (ds.map f)
  | [], _, _ => rfl
  | d :: ds, h, h2 => by
    unfold lcP
    rw [h d (by simp), Option.bind_some]
    simp only [Option.bind_some, if_true]
    rw [h2 d (by simp), Option.bind_some, lc_mapG δ1 f (fun x hx => h x (by simp [hx])) fun x hx => h2 x (by simp [hx])]
    rfl
@[simp] theorem ev_tupT (u : List D → S → Option S) (ds : List D) (δ : S) : tupT u (.tuple ds) δ = u ds δ := rfl
@[simp] theorem ev_gsNil (δ : S) : gsNil [] δ = some δ := rfl
@[simp] theorem ev_gsCons (t : D → S → Option S) (u : List D → S → Option S) (d : D) (r : List D) (δ : S) : gsCons t u (d :: r) δ = (t d δ).bind fun δ' => u r δ' := rfl
@[simp] theorem ev_outRt (d : D) (δ : S) : outP (.rt d δ) = some d := rfl
@[simp] theorem ev_outNx (δ : S) : outP (.nx δ) = some .none := rfl
@[simp] theorem ev_outRRt (d : D) (δ : S) : outR (.rt d δ) = some (.ok d) := rfl
@[simp] theorem ev_outRNx (δ : S) : outR (.nx δ) = some (.ok .none) := rfl
@[simp] theorem ev_outREr (c : Addr) (δ : S) : outR (.er c δ) = some (.error c) := rfl
@[simp] theorem ev_slot0 (d : D) (r : S) : slot 0 (.im d :: r) = some d := rfl
@[simp] theorem ev_slotS (i : Nat) (s : Sl) (r : S) : slot (i + 1) (s :: r) = slot i r := rfl
@[simp] theorem ev_slot1 (s : Sl) (r : S) : slot 1 (s :: r) = slot 0 r := rfl
@[simp] theorem ev_slot2 (s t : Sl) (r : S) : slot 2 (s :: t :: r) = slot 0 r := rfl
@[simp] theorem ev_slot3 (s t u : Sl) (r : S) : slot 3 (s :: t :: u :: r) = slot 0 r := rfl
@[simp] theorem ev_slot4 (s t u v : Sl) (r : S) : slot 4 (s :: t :: u :: v :: r) = slot 0 r := rfl
@[simp] theorem ev_slot5 (s t u v x : Sl) (r : S) : slot 5 (s :: t :: u :: v :: x :: r) = slot 0 r := rfl
@[simp] theorem ev_slot6 (s t u v x y : Sl) (r : S) : slot 6 (s :: t :: u :: v :: x :: y :: r) = slot 0 r := rfl
@[simp] theorem ev_slot7 (s t u v x y z : Sl) (r : S) : slot 7 (s :: t :: u :: v :: x :: y :: z :: r) = slot 0 r := rfl
@[simp] theorem ev_slot8 (s t u v x y z a : Sl) (r : S) : slot 8 (s :: t :: u :: v :: x :: y :: z :: a :: r) = slot 0 r := rfl
def parD (i j : Nat) (δ : S) : List D → Option Out
  | [x, y] => some (.nx ((δ.set i (.im x)).set j (.im y)))
  | _ => none
@[simp] theorem ev_parD (i j : Nat) (δ : S) (x y : D) : parD i j δ [x, y] = some (.nx ((δ.set i (.im x)).set j (.im y))) := rfl
@[simp] theorem ev_parO (f : M (List D)) (i j : Nat) (δ : S) : parO f i j δ = (f δ).bind fun p => parD i j p.2 p.1 := by
  unfold parO
  cases f δ with
  | none => rfl
  | some p =>
    obtain ⟨l, δ'⟩ := p
    match l with
    | [] => rfl
    | [_] => rfl
    | [_, _] => rfl
    | _ :: _ :: _ :: _ => rfl
@[simp] theorem ev_augO (i : Nat) (f : M D) (op : D → D → Option D) (δ : S) : augO i f op δ = (slot i δ).bind fun x => (f δ).bind fun p => (op x p.1).map fun z => Out.nx (p.2.set i (.im z)) := by
  unfold augO
  cases slot i δ with
  | none => rfl
  | some x =>
    simp only [Option.bind_some]
    cases f δ with
    | none => rfl
    | some p => simp only [Option.bind_some]; cases op x p.1 <;> rfl
@[simp] theorem ev_forO (fi : M (List D)) (t : D → S → Option S) (g : S → Option Out) (δ : S) : forO fi t g δ = (fi δ).bind fun p => forD t g p.1 p.2 := by
  unfold forO; cases fi δ <;> rfl
@[simp] theorem ev_for0 (t : D → S → Option S) (g : S → Option Out) (δ : S) : forD t g [] δ = some (.nx δ) := rfl
@[simp] theorem ev_wipe0 (δ : S) : wipeS δ [] = δ := rfl
@[simp] theorem ev_wipe1 (δ : S) (v : Nat) (vs : List Nat) : wipeS δ (v :: vs) = (wipeS δ vs).set v .un := rfl
@[simp] theorem ev_noOw0 (δ : S) : noOw δ [] = true := rfl
@[simp] theorem ev_noOw1 (δ : S) (v : Nat) (vs : List Nat) : noOw δ (v :: vs) = ((match δ[v]? with | some (.ow _ _) => false | _ => true) && noOw δ vs) := rfl
@[simp] theorem ev_iterS_t (l : List D) : iterS (.tuple l) = some l := rfl
@[simp] theorem ev_iterS_l (l : List D) : iterS (.list l) = some l := rfl
@[simp] theorem ev_iterD_t (l : List D) : iterD (.tuple l) = some l := rfl
@[simp] theorem ev_iterD_l (l : List D) : iterD (.list l) = some l := rfl
@[simp] theorem ev_len_t (l : List D) : lenD [.tuple l] = some (.int l.length) := rfl
@[simp] theorem ev_len_l (l : List D) : lenD [.list l] = some (.int l.length) := rfl
theorem ev_len_s {z : Str} (h : z.length ≤ sizeLine) : lenD [.str z] = some (.int z.length) := if_pos h
@[simp] theorem ev_not (b : Bool) : notD (.bool b) = some (.bool (!b)) := rfl
theorem bools_map {α : Type} (f : α → Bool) : ∀ l : List α, boolsOf (l.map fun x => (.bool (f x) : D)) = some (l.map f)
  | [] => rfl
  | x :: l => by unfold boolsOf; rw [List.map_cons]; simp only; rw [bools_map f l]; rfl
theorem ints_map {α : Type} (f : α → Int) : ∀ l : List α, intsOf (l.map fun x => (.int (f x) : D)) = some (l.map f)
  | [] => rfl
  | x :: l => by unfold intsOf; rw [List.map_cons]; simp only; rw [ints_map f l]; rfl
theorem strs_map {α : Type} (f : α → Str) : ∀ l : List α, strsOf (l.map fun x => (.str (f x) : D)) = some (l.map f)
  | [] => rfl
  | x :: l => by unfold strsOf; rw [List.map_cons]; simp only; rw [strs_map f l]; rfl
theorem all_map {α : Type} (f : α → Bool) (l : List α) : allD [.list (l.map fun x => (.bool (f x) : D))] = some (.bool (l.all f)) := by
  unfold allD; dsimp only; rw [bools_map]; simp [List.all_map]
theorem any_map {α : Type} (f : α → Bool) (l : List α) : anyD [.list (l.map fun x => (.bool (f x) : D))] = some (.bool (l.any f)) := by
  unfold anyD; dsimp only; rw [bools_map]; simp [List.any_map]
theorem sum_map {α : Type} (f : α → Int) (l : List α) : sumD [.list (l.map fun x => (.int (f x) : D))] = some (.int (l.map f).sum) := by
  unfold sumD; dsimp only; rw [ints_map]; rfl
theorem kb1 : kitB "NoneType" "str" = some false := by decide +kernel
theorem kb2 : kitB "bool" "str" = some false := by decide +kernel
theorem kb3 : kitB "int" "str" = some false := by decide +kernel
theorem kb4 : kitB "str" "str" = some true := by decide +kernel
theorem kb5 : kitB "list" "str" = some false := by decide +kernel
theorem kb6 : kitB "tuple" "str" = some false := by decide +kernel
theorem kb7 : kitB "NoneType" "tuple" = some false := by decide +kernel
theorem kb8 : kitB "bool" "tuple" = some false := by decide +kernel
theorem kb9 : kitB "int" "tuple" = some false := by decide +kernel
theorem kb10 : kitB "str" "tuple" = some false := by decide +kernel
theorem kb11 : kitB "list" "tuple" = some false := by decide +kernel
theorem kb12 : kitB "tuple" "tuple" = some true := by decide +kernel
theorem kb13 : kitB "NoneType" "int" = some false := by decide +kernel
theorem kb14 : kitB "bool" "int" = some true := by decide +kernel
theorem kb15 : kitB "int" "int" = some true := by decide +kernel
theorem kb16 : kitB "str" "int" = some false := by decide +kernel
theorem kb17 : kitB "list" "int" = some false := by decide +kernel
theorem kb18 : kitB "tuple" "int" = some false := by decide +kernel
theorem kb19 : kitB "NoneType" "bool" = some false := by decide +kernel
theorem kb20 : kitB "bool" "bool" = some true := by decide +kernel
theorem kb21 : kitB "int" "bool" = some false := by decide +kernel
theorem kb22 : kitB "str" "bool" = some false := by decide +kernel
theorem kb23 : kitB "list" "bool" = some false := by decide +kernel
theorem kb24 : kitB "tuple" "bool" = some false := by decide +kernel
def isStrD : D → Bool | .str _ => true | _ => false
def isTupD : D → Bool | .tuple _ => true | _ => false
def isIntD : D → Bool | .int _ => true | .bool _ => true | _ => false
def isBoolD : D → Bool | .bool _ => true | _ => false
def noDic : D → Bool | .dict _ => false | _ => true
theorem isi_str {d : D} (h : noDic d = true) : isiD "str" d = some (.bool (isStrD d)) := by
  cases d <;> first | exact absurd h Bool.false_ne_true | simp [isiD, tyD, isStrD, kb1, kb2, kb3, kb4, kb5, kb6]
theorem isi_tup {d : D} (h : noDic d = true) : isiD "tuple" d = some (.bool (isTupD d)) := by
  cases d <;> first | exact absurd h Bool.false_ne_true | simp [isiD, tyD, isTupD, kb7, kb8, kb9, kb10, kb11, kb12]
theorem isi_int {d : D} (h : noDic d = true) : isiD "int" d = some (.bool (isIntD d)) := by
  cases d <;> first | exact absurd h Bool.false_ne_true | simp [isiD, tyD, isIntD, kb13, kb14, kb15, kb16, kb17, kb18]
theorem isi_bool {d : D} (h : noDic d = true) : isiD "bool" d = some (.bool (isBoolD d)) := by
  cases d <;> first | exact absurd h Bool.false_ne_true | simp [isiD, tyD, isBoolD, kb19, kb20, kb21, kb22, kb23, kb24]
end Pf

set_option Elab.async false
set_option linter.all false
set_option maxRecDepth 100000
set_option maxHeartbeats 8000000
namespace Pf
open PySem L2 PyProof.Rows

/-! ### sets of keys, made of a tuple or a list: how many there are -/
/-- one key more -/
def ins {κ : Type} [DecidableEq κ] (k : κ) (L : List κ) : List κ := if k ∈ L then L else k :: L
def many {κ : Type} [DecidableEq κ] : List κ → List κ → List κ
  | [], L => L
  | k :: ks, L => many ks (ins k L)
/-- a way to hold sets of keys κ: at a the keys L; their values stand in h0 -/
structure SKit (P : Program) (w : World) (A : Around) (κ : Type) [DecidableEq κ] where
  inv : Heap → Heap → Addr → List κ → Prop
  item : Heap → κ → Value → Prop
  most : Nat
  fresh : ∀ h0 h a, h.get? a = some { cls := .type "set", dict := none, data := .set #[] 0 (.fresh 0 0 (!w.params.followText "set-order")) } → inv h0 h a []
  keep : ∀ h0 h h' a L, inv h0 h a L → (∀ o, h.get? a = some o → h'.get? a = some o) → inv h0 h' a L
  add : ∀ (h0 : Heap) (s : Shared) (a : Addr) (L : List κ) (k : κ) (v : Value) (Q : Bool → Shared → Prop) (E : Value → Shared → Prop), (∀ b o, h0.get? b = some o → s.heap.get? b = some o) → h0.get? a = none → inv h0 s.heap a L → item h0 k v → L.length + 1 < most →
    (∀ r h' tk, Heap.SameBut a s.heap h' → s.toks ≤ tk → inv h0 h' a (ins k L) → Q r { s with heap := h', toks := tk }) → wpAny (model P w) A (setAdd a v) Q E s
  size : ∀ h0 h a L, inv h0 h a L → ∃ o es ep t, h.get? a = some o ∧ o.ExactSet ∧ o.data = .set es ep t ∧ es.size = L.length ∧ t.fits es.size = true

theorem ins_len {κ : Type} [DecidableEq κ] (k : κ) (L : List κ) : (ins k L).length ≤ L.length + 1 := by
  unfold ins; split <;> simp
section
variable {P : Program} {w : World} {A : Around} {E : Value → Shared → Prop} {s : Shared} {κ : Type} [DecidableEq κ]
/-- the loop of set.update -/
theorem upd_loop {I : Addr} {fp wr : List Addr} {G : Array GenState → Array GenState → Prop} {n : Nat} {Pv : Nat → Value → Prop} {St : Nat → Shared → Prop} {R : Result → Shared → Prop} (kit : SKit P w A.in1 κ)
    (W : WalksS P w A.in1 I fp wr G n Pv St) (a : Addr) (ha : a ∉ fp) (h0 : Heap) (h0a : h0.get? a = none) (h0w : ∀ b ∈ wr, h0.get? b = none) (ks : List κ) (hn : ks.length = n) (hv : ∀ i v, Pv i v → ∃ k, ks[i]? = some k ∧ kit.item h0 k v) :
    ∀ (m i : Nat) (s : Shared) (L : List κ), n - i = m → i ≤ n → St i s → (∀ b o, h0.get? b = some o → s.heap.get? b = some o) → kit.inv h0 s.heap a L → L.length + (n - i) < kit.most →
      (∀ s', Moved (a :: wr) G s s' → kit.inv h0 s'.heap a (many (ks.drop i) L) → (∀ b o, h0.get? b = some o → s'.heap.get? b = some o) → R (.ok (.ret .none)) s') →
      codeAny (model P w) A (.builtin "set.update.loop" ⟨[.ref a, .ref I], []⟩) R s := by
  have haw : a ∉ wr := fun q => ha (W.sub _ q)
  have up : ∀ b ∈ wr, b ∈ a :: wr := fun b q => List.mem_cons_of_mem _ q
  have stay : ∀ {s s' : Shared}, Moved wr G s s' → (∀ b o, h0.get? b = some o → s.heap.get? b = some o) → ∀ b o, h0.get? b = some o → s'.heap.get? b = some o := fun mv k b o q => mv.heap b o (fun z => by rw [h0w b z] at q; cases q) (k b o q)
  intro m
  induction m with
  | zero =>
    intro i s L hm hi st kp iv hmost hR
    obtain rfl : i = n := by omega
    refine codeAny_builtin PyProof.Rows.F.entry_set_update_loop ?_
    rw [Around.under_plainId PyProof.Rows.F.plain_set_update_loop _]
    show wpAny _ A.in1 (pyNext (.ref I) >>= _) _ _ s
    refine wpAny_bind (W.done s _ _ st fun s' mv => ?_)
    show wpAny _ A.in1 (PySem.ret Value.none) _ _ s'
    refine wpAny_pure (hR s' (mv.mono up) ?_ (stay mv kp))
    rw [List.drop_of_length_le (by omega)]
    exact kit.keep h0 _ _ a L iv fun o q => mv.heap a o haw q
  | succ m ih =>
    intro i s L hm hi st kp iv hmost hR
    have hlt : i < n := by omega
    refine codeAny_builtin PyProof.Rows.F.entry_set_update_loop ?_
    rw [Around.under_plainId PyProof.Rows.F.plain_set_update_loop _]
    show wpAny _ A.in1 (pyNext (.ref I) >>= _) _ _ s
    refine wpAny_bind (W.item i s _ _ hlt st fun v s' pv st' mv => ?_)
    obtain ⟨k, hk, hit⟩ := hv i v pv
    have kp' := stay mv kp
    have iv' := kit.keep h0 _ s'.heap a L iv fun o q => mv.heap a o haw q
    show wpAny _ A.in1 (holding [v] (setAdd a v) >>= _) _ _ s'
    refine wpAny_bind (wpAny_holding (kit.add h0 s' a L k v _ _ kp' h0a iv' hit (by omega) fun r h' tk sb tk' iv2 => ?_))
    have kp2 : ∀ b o, h0.get? b = some o → h'.get? b = some o := fun b o q => (sb.2 b fun z => by rw [z, h0a] at q; cases q).trans (kp' b o q)
    have hd : ks.drop i = k :: ks.drop (i + 1) := by
      have hl : i < ks.length := by omega
      rw [List.drop_eq_getElem_cons hl]
      rw [List.getElem?_eq_getElem hl] at hk
      cases hk; rfl
    have hlen := ins_len k L
    refine wpAny_pure ⟨plainId_quiet PyProof.Rows.F.plain_set_update_loop _, ih (i + 1) { s' with heap := h', toks := tk } (ins k L) (by omega) hlt (W.frame _ s' _ _ st' tk' fun b hb o q => ?_) kp2 iv2 (by omega) fun s2 mv2 iv3 kp3 => ?_⟩
    · exact (sb.2 b fun z => ha (z ▸ hb)).trans q
    · refine hR s2 (Moved.trans W.gtrans ((mv.mono up).then_heap tk' fun b o hb q => ?_) mv2) ?_ kp3
      · exact (sb.2 b fun z => hb (by rw [z]; exact List.mem_cons_self)).trans q
      · rw [hd]; exact iv3
abbrev newSet (w : World) : Obj := { cls := .type "set", dict := none, data := .set #[] 0 (.fresh 0 0 (!w.params.followText "set-order")) }
/-- set(t), t a tuple -/
theorem set_of_tuple {l : Addr} {items : Array Value} {Q : Value → Shared → Prop} (kit : SKit P w A.in1.in1.in1 κ) (ks : List κ) (hh : A.handled = none) (hl : s.heap.IsTuple l items) (hks : ks.length = items.size) (hv : ∀ (i : Nat) (v : Value), items[i]? = some v → ∃ k, ks[i]? = some k ∧ kit.item s.heap k v) (hm : items.size < kit.most)
    (h : ∀ h' tk, kit.inv s.heap h' s.heap.objs.size (many ks []) → (∀ b o, s.heap.get? b = some o → h'.get? b = some o) → Q (.ref s.heap.objs.size) { s with heap := h', toks := tk }) : wpAny (model P w) A (call (.type "set") [.ref l]) Q E s := by
  obtain ⟨_, _, hmro⟩ := PySem.F.called_set.mro
  have hmade := PySem.F.called_set.made
  have hsub := PySem.F.called_set.sub
  have nt := PySem.F.called_set.notType
  have cc := PySem.F.called_set.canCreate
  have tc := PySem.F.typeCall_set_1 (.ref l)
  refine wpAny_call (codeAny_of_tree ?_)
  show wpAny _ _ (callAny (.type "set") _) _ _ _
  refine wpAny_pure ⟨Code.quiet_builtin _ (by decide +kernel), codeAny_builtin PySem.F.entry_type_call ?_⟩
  rw [Around.under_plain (weight_type_call_type "set" [.ref l] []) rfl]
  repeat (any_goals (first | assumption | wp_step))
  refine codeAny_mono (code_set_led1 (.ref l) (E := E) (Q₁ := fun x s1 => x = .ref s.heap.objs.size ∧ s1 = { s with heap := s.heap.push (newSet w) }) ⟨rfl, rfl⟩) fun r s1 hr => ?_
  cases r with
  | error e => exact hr
  | ok fl =>
    cases fl with
    | ret x =>
      obtain ⟨rfl, rfl⟩ := hr
      have gS : (s.heap.push (newSet w)).get? s.heap.objs.size = some (newSet w) := Heap.get?_push_size _ rfl
      have tS : Shared.TypeIs { s with heap := s.heap.push (newSet w) } (.ref s.heap.objs.size) "set" := ⟨_, gS, rfl⟩
      have li := PySem.F.called_set.init.lookup
      have bi := PySem.F.called_set.init.bind (.ref s.heap.objs.size)
      repeat (any_goals (first | assumption | wp_step))
      refine codeAny_mono (codeAny_call_builtin (R := wants (fun r s2 => r = .none ∧ ∃ h' tk, s2 = { s with heap := h', toks := tk } ∧ kit.inv s.heap h' s.heap.objs.size (many ks []) ∧ ∀ b o, s.heap.get? b = some o → h'.get? b = some o) E) PySem.F.called_set.init.plain PySem.F.entry_set_init (check_set_init_1 tS ?_)) fun r2 s2 hr2 => ?_
      · obtain ⟨⟨oc, od, dt, osl⟩, ho, hc, nl, hd⟩ := id hl
        simp only at hc hd
        subst hc; subst hd
        have ho' : (s.heap.push (newSet w)).get? l = some { cls := .type "tuple", dict := od, data := .seq items nl, slots := osl } := Heap.get?_push_of_some _ ho
        have s1 := PySem.F.sub_tuple_set
        have s2 := PySem.F.sub_tuple_frozenset
        have nd : (Value.type "tuple" == Value.type "dict") = false := by decide
        have hl1 : (s.heap.push (newSet w)).IsTuple l items := ⟨_, ho', rfl, nl, rfl⟩
        unfold Builtin.«set.__init__» noKeywords Builtin.Frozenset.updateFrom
        generalize ep : pyIter = pI
        wp_walk
        subst ep
        refine wpAny_pyIter_tuple hl1 (wpAny_bind (wpAny_runValue ?_))
        have lt : l < s.heap.objs.size := Heap.lt_size ho
        have h3 : A.in1.in1.in1.handled = none := by simp [hh]
        have gone : ∀ b, s.heap.objs.size ≤ b → s.heap.get? b = none := fun b hb => by
          cases q : s.heap.get? b with
          | none => rfl
          | some o => exact absurd (Nat.lt_of_lt_of_le (Heap.lt_size q) hb) (Nat.lt_irrefl _)
        refine upd_loop kit ((Walks.tuple h3 _ l (by rw [Heap.size_push]; exact Nat.ne_of_lt (Nat.lt_succ_of_lt lt)) items).toS) s.heap.objs.size ?f1 s.heap (gone _ (Nat.le_refl _)) (fun b hb => gone b ?f2) ks hks hv (items.size - 0) 0 _ [] (by omega) (Nat.zero_le _)
          ⟨⟨_, Heap.get?_push_size _ rfl, rfl, rfl⟩, hl1.push _⟩ (fun b o q => Heap.get?_push_of_some _ (Heap.get?_push_of_some _ q)) (kit.fresh _ _ _ (Heap.get?_push_of_some _ gS)) (by simpa using hm) ?f3
        case f1 =>
          rw [Heap.size_push]
          intro z
          rcases List.mem_cons.mp z with z | z
          · exact absurd z (Nat.ne_of_lt (Nat.lt_succ_self _))
          · exact absurd (List.mem_singleton.mp z) (Nat.ne_of_gt lt)
        case f2 =>
          rw [List.mem_singleton.mp hb, Heap.size_push]
          omega
        case f3 =>
          intro s' mv iv kp
          obtain ⟨h', g', d', t', o'⟩ := s'
          obtain rfl : g' = s.gens := mv.gens
          obtain rfl : d' = s.drawn := mv.drawn
          obtain rfl : o' = s.os := mv.os
          show wpAny _ _ _ _ _ _
          refine wpAny_pure ?_
          show wpAny _ _ (PySem.ret Value.none) _ _ _
          exact wpAny_pure ⟨rfl, h', t', rfl, iv, kp⟩
      · cases r2 with
        | error e => exact hr2
        | ok fl2 =>
          cases fl2 with
          | ret r =>
            obtain ⟨rfl, h', tk, rfl, iv, kp⟩ := hr2
            repeat (any_goals (first | assumption | wp_step))
            exact h _ _ iv kp
          | _ => exact hr2.elim
    | _ => exact hr.elim
end
end Pf

set_option Elab.async false
set_option linter.all false
set_option maxRecDepth 100000
set_option maxHeartbeats 8000000
namespace Pf
open PySem L2 PyProof.Rows

/-! ### texts as keys -/
section
variable {P : Program} {w : World} {A : Around}
theorem any_mem (k : Str) (L : List Str) : decide (k ∈ L) = L.any (· == k) := by
  induction L with
  | nil => simp
  | cons x L ih =>
    rw [List.any_cons, ← ih]
    by_cases e : k = x
    · subst e; simp
    · have : (x == k) = false := by simpa using fun z : x = k => e z.symm
      simp [this, e]
def strKit (P : Program) (w : World) (A : Around) : SKit P w A Str where
  inv := fun _ h a L => h.SetOf (PySem.strKind P w) a (fun k => decide (k ∈ L)) L.length
  item := fun _ k v => ∃ t, v = .str k t
  most := scanBound
  fresh := fun h0 h a ho => by
    exact PyProof.Rows.SetOf_congr ((PyProof.Rows.setObjOf_fresh (knd := PySem.strKind P w) (!w.params.followText "set-order")).setOf ho (by unfold scanBound; omega)) (fun _ => by simp) rfl
  keep := fun h0 h h' a L iv k => by
    obtain ⟨o, es, ep, t, ho, r⟩ := iv
    exact ⟨o, es, ep, t, k o ho, r⟩
  add := fun h0 s a L k v Q E kp h0a iv it hm q => by
    obtain ⟨t, rfl⟩ := it
    unfold setAdd
    refine wpAny_holding (wpAny_bind ((PySem.strKind P w).pyHash (k := k) (strKind_is _ _ _ _) ?_))
    refine wpAny_setAddHashed_of (knd := PySem.strKind P w) (s := { s with toks := s.toks + 1 }) (strKind_is _ _ _ _) rfl iv hm fun h' sb iv2 => ?_
    refine q _ h' (s.toks + 1) sb (Nat.le_succ _) (PyProof.Rows.SetOf_congr iv2 (fun k' => ?_) ?_)
    · unfold ins
      by_cases e : k ∈ L
      · simp only [e, if_true]
        by_cases e2 : k' = k
        · subst e2; simp [e]
        · simp [e2]
      · simp only [e, if_false]
        by_cases e2 : k' = k
        · subst e2; simp
        · simp [e2]
    · unfold ins
      by_cases e : k ∈ L <;> simp [e]
  size := fun h0 h a L iv => by
    obtain ⟨o, es, ep, t, ho, hex, hd, hel, hmem, hb, hf, hn⟩ := iv
    exact ⟨o, es, ep, t, ho, hex, hd, hn, hf⟩

/-! ### tuples of texts as keys -/
abbrev TKey (P : Program) (w : World) (h : Heap) (k : List Str) (b : Addr) : Prop := IsTupleKey (PySem.strKind P w) h k b
abbrev tkH (P : Program) (w : World) (k : List Str) : Int := tupleKeyHash (PySem.strKind P w) k
theorem TKey.up {h h' : Heap} {k : List Str} {b : Addr} (x : TKey P w h k b) (e : ∀ o, h.get? b = some o → h'.get? b = some o) : TKey P w h' k b := by
  obtain ⟨o, items, n, ho, r⟩ := x
  exact ⟨o, items, n, e o ho, r⟩
theorem key_texts {k : List Str} {vs : List Value} (h : ItemsAre (PySem.strKind P w) k vs) : ∀ v ∈ vs, ∃ x t, v = Value.str x t := by
  induction h with
  | nil => intro v q; simp at q
  | cons h1 _ ih =>
    intro v q
    rcases List.mem_cons.mp q with q | q
    · obtain ⟨t, z⟩ := Value.isStrOf_shape h1
      exact ⟨_, t, q.trans z⟩
    · exact ih v q
section
variable {E : Value → Shared → Prop} {s : Shared}
theorem noClass {k : List Str} {b : Addr} {Q : Bool → Shared → Prop} (x : TKey P w s.heap k b) (q : Q false s) : wpAny (model P w) A (ofAClassStatement 8 (.ref b)) Q E s := by
  have ty := x.typeIs
  obtain ⟨o, items, n, ho, _, hd, hi⟩ := x
  have txt := key_texts hi
  unfold ofAClassStatement
  refine wpAny_bind (wpAny_typeOf ty ?_)
  dsimp only
  simp only [show (("tuple" : String) == "tuple") = true by decide, if_true, Bool.not_true, Bool.false_eq_true, if_false]
  try refine wpAny_bind (wpAny_pure ?_)
  try simp only [Bool.not_true, Bool.false_eq_true, if_false]
  show wpAny _ _ (seqItems? (.ref b) >>= _) _ _ s
  refine wpAny_bind (wpAny_seqItems ho hd ?_)
  dsimp only
  refine wpAny_bind ?_
  show wpAny _ _ (forIn items _ _) _ _ s
  rw [← Array.forIn_toList]
  refine wpAny_forIn_list _ (fun l r s1 => r.1 = none ∧ s1 = s ∧ ∀ v ∈ l, ∃ x t, v = Value.str x t) _ ?_ ?_ _ _ ⟨rfl, rfl, txt⟩
  · rintro v l r s1 ⟨_, rfl, al⟩
    obtain ⟨x, t, rfl⟩ := al v (by simp)
    rw [show ofAClassStatement 7 (.str x t) = pure false from rfl]
    refine wpAny_bind (wpAny_pure ?_)
    simp only [Bool.false_eq_true, if_false]
    exact wpAny_pure ⟨rfl, rfl, fun u hu => al u (List.mem_cons_of_mem _ hu)⟩
  · rintro ⟨r1, r2⟩ s1 ⟨rfl, rfl, _⟩
    exact wpAny_pure q
theorem byVal {k : List Str} {b : Addr} {Q : Bool → Shared → Prop} (x : TKey P w s.heap k b) (q : ∀ r, Q r s) : wpAny (model P w) A (hashByValue 8 (.ref b)) Q E s := by
  have ty := x.typeIs
  obtain ⟨o, items, n, ho, _, hd, hi⟩ := x
  have txt := key_texts hi
  unfold hashByValue
  refine wpAny_bind (wpAny_specialOf ty PySem.F.slot_tuple_hash.lookup ?_)
  show wpAny _ _ (seqItems? (.ref b) >>= _) _ _ s
  refine wpAny_bind (wpAny_seqItems ho hd (wpAny_bind ?_))
  show wpAny _ _ (forIn items _ _) _ _ s
  rw [← Array.forIn_toList]
  refine wpAny_forIn_list _ (fun l r s1 => r.1 = none ∧ s1 = s ∧ ∀ v ∈ l, ∃ x t, v = Value.str x t) _ ?_ ?_ _ _ ⟨rfl, rfl, txt⟩
  · rintro v l r s1 ⟨_, rfl, al⟩
    obtain ⟨x, t, rfl⟩ := al v (by simp)
    rw [show hashByValue 7 (.str x t) = pure false by unfold hashByValue; rfl]
    refine wpAny_bind (wpAny_pure ?_)
    simp only [Bool.not_false, if_true]
    exact wpAny_pure (wpAny_pure (q false))
  · rintro ⟨r1, r2⟩ s1 ⟨rfl, rfl, _⟩
    exact wpAny_pure (q true)
theorem unseen {k : List Str} {b : Addr} {Q : Bool → Shared → Prop} (x : TKey P w s.heap k b) {ys : List Value} (hy : ∀ y ∈ ys, ∃ k' c, y = Value.ref c ∧ TKey P w s.heap k' c) (q : Q false s) : wpAny (model P w) A (searchCouldBeSeen (.ref b) ys) Q E s := by
  unfold searchCouldBeSeen
  refine wpAny_bind (wpAny_forIn_list _ (fun l r s1 => r.1 = none ∧ s1 = s ∧ ∀ y ∈ l, ∃ k' c, y = Value.ref c ∧ TKey P w s.heap k' c) _ ?_ ?_ _ _ ⟨rfl, rfl, hy⟩)
  · rintro v l r s1 ⟨_, rfl, al⟩
    obtain ⟨k', c, rfl, xc⟩ := al v (by simp)
    have tl : ∀ y ∈ l, ∃ k' c, y = Value.ref c ∧ TKey P w s1.heap k' c := fun u hu => al u (List.mem_cons_of_mem _ hu)
    dsimp only
    by_cases z : (b == c || (carriedByValue (.ref b) && carriedByValue (.ref c))) = true
    · exact wp_if_pos z (wpAny_pure ⟨rfl, rfl, tl⟩)
    · refine wp_if_neg z (wpAny_bind (wpAny_eqIsQuiet_tuple x ?_))
      simp only [Bool.not_true, Bool.false_eq_true, if_false]
      refine wpAny_bind (wpAny_eqIsQuiet_tuple xc ?_)
      simp only [Bool.not_true, Bool.false_eq_true, if_false]
      refine wpAny_bind (noClass x ?_)
      simp only [Bool.false_eq_true, if_false]
      refine wpAny_bind (noClass xc ?_)
      simp only [Bool.false_eq_true, if_false]
      exact wpAny_pure ⟨rfl, rfl, tl⟩
  · rintro ⟨r1, r2⟩ s1 ⟨rfl, rfl, _⟩
    exact wpAny_pure q
end
/-- what stands in the set: places and keys -/
abbrev Ent := Addr × List Str
def rowF (P : Program) (w : World) : Ent → Int × Value := fun p => (tkH P w p.2, Value.ref p.1)
structure TSet (P : Program) (w : World) (h0 h : Heap) (a : Addr) (L : List Ent) (es : Array (Int × Value)) (ep : Nat) (t : SetTable) : Prop where
  ob : ∃ o, h.get? a = some o ∧ o.ExactSet ∧ o.data = .set es ep t
  rows : es.toList = L.map (rowF P w)
  tab : TabOk t (L.map fun p => tkH P w p.2)
  nd : (L.map (·.2)).Nodup
  tup : ∀ p ∈ L, TKey P w h0 p.2 p.1
  led : w.params.followText "set-order" = true ∨ t.led = true
  room : L.length * 5 < t.mask * 3
section
variable {E : Value → Shared → Prop} {s : Shared} {h0 : Heap} {a : Addr} {L : List Ent} {es : Array (Int × Value)} {ep : Nat} {t : SetTable}
theorem TSet.size (R : TSet P w h0 s.heap a L es ep t) : es.size = L.length := by
  rw [← Array.length_toList, R.rows, List.length_map]
theorem fits_of (hs : es.size = L.length) (T : TabOk t (L.map fun p => tkH P w p.2)) (hm : L.length ≤ t.mask) : t.fits es.size = true := by
  have h1 := T.sz
  rw [List.length_map] at h1
  unfold SetTable.fits SetTable.fill
  rw [T.dm, Bool.and_eq_true, beq_iff_eq, decide_eq_true_eq]
  exact ⟨h1.trans hs.symm, by show t.place.size + 0 ≤ t.mask; omega⟩
theorem TSet.fits (R : TSet P w h0 s.heap a L es ep t) : t.fits es.size = true := fits_of R.size R.tab (by have := R.room; omega)
theorem TSet.at (R : TSet P w h0 s.heap a L es ep t) {i : Nat} {p : Ent} (h : L[i]? = some p) : es[i]? = some (rowF P w p) := by
  rw [← Array.getElem?_toList, R.rows, List.getElem?_map, h]; rfl
/-- the c-th stop of a search -/
abbrev stop (m : Nat) (h : Int) (c : Nat) : SetTable.Probe := nth m (runAt m (SetTable.bits h % (m + 1)) (SetTable.bits h)) c
theorem stop_dummy (m : Nat) (h : Int) (c : Nat) : (stop m h c).dummy = none := by
  have key : ∀ (n : Nat) (p : SetTable.Probe), p.dummy = none → (nth m p n).dummy = none := fun n => by
    induction n with
    | zero => exact fun _ q => q
    | succ n ih => exact fun p q => ih (adv m p) (by unfold adv; split <;> exact q)
  exact key c _ rfl
theorem find_from (R : TSet P w h0 s.heap a L es ep t) (kp : ∀ b o, h0.get? b = some o → s.heap.get? b = some o) {x : Addr} {k : List Str} (hx : TKey P w s.heap k x) (hu : A.units < cLine) {n : Nat} (hn : n < 10 * SetTable.turns t.mask)
    (free : (stop t.mask (tkH P w k) n).j ∉ t.place.toList) (full : ∀ c, c < n → (stop t.mask (tkH P w k) c).j ∈ t.place.toList) {Q : SetFound → Shared → Prop}
    (yes : k ∈ L.map (·.2) → Q (.there none) s) (no : k ∉ L.map (·.2) → Q (.free (stop t.mask (tkH P w k) n).j false) s) :
    ∀ (f c : Nat) (st : Option SetTable.Probe), st.getD (t.probeStart (tkH P w k)) = stop t.mask (tkH P w k) c → c ≤ n → n - c < f →
      (∀ (i : Nat) (p : Ent), L[i]? = some p → p.2 = k → ∃ d, c ≤ d ∧ d < n ∧ t.place.toList[i]? = some (stop t.mask (tkH P w k) d).j) → wpAny (model P w) A (setSearchFrom a (.ref x) (tkH P w k) true f st) Q E s := by
  intro f
  induction f with
  | zero => intro c st _ _ z; exact absurd z (Nat.not_lt_zero _)
  | succ f ih =>
    intro c st hst hc hf ahead
    obtain ⟨o, ho, hex, hd⟩ := R.ob
    rw [setSearchFrom_succ]
    refine wpAny_bind (wpAny_setState_of ho hd R.fits ?_)
    dsimp only
    refine wp_if_neg (by unfold SetTable.gaveWay; rw [mask_odd R.tab.mok]; decide) ?_
    try refine wpAny_bind (wpAny_pure ?_)
    have sh : ∀ d, nth t.mask (stop t.mask (tkH P w k) c) d = stop t.mask (tkH P w k) (c + d) := fun d => (nth_add t.mask c _ d).symm
    have hash : ∀ (i : Nat) (p : Ent), L[i]? = some p → (es[i]?.map (·.1)).getD 0 = tkH P w p.2 := fun i p q => by rw [R.at q]; rfl
    have spec := go_spec t R.tab.ris R.tab.dm (fun i => (es[i]?.map (·.1)).getD 0) (tkH P w k) (10 * SetTable.turns t.mask) (n - c) (stop t.mask (tkH P w k) c) (stop_dummy _ _ _) (by omega)
      (fun d hd => by rw [sh]; exact full (c + d) (by omega)) (by rw [sh, show c + (n - c) = n by omega]; exact free)
    rcases spec with ⟨d, i, hd1, hi, hh, before, pr⟩ | ⟨before, pr⟩
    · rw [sh] at hi
      have pr' : t.probe (fun i => (es[i]?.map (·.1)).getD 0) (tkH P w k) (st.getD (t.probeStart (tkH P w k))) = some (.candidate (stop t.mask (tkH P w k) (c + d)).j i (stop t.mask (tkH P w k) (c + (d + 1)))) := by
        rw [hst, ← sh d, ← sh (d + 1)]; exact pr
      rw [pr']
      dsimp only
      have il : i < L.length := by
        have z1 := (List.getElem?_eq_some_iff.mp hi).1
        have z2 := R.tab.sz
        rw [List.length_map] at z2
        rw [Array.length_toList] at z1
        omega
      obtain ⟨p, hp⟩ : ∃ p, L[i]? = some p := ⟨_, List.getElem?_eq_getElem il⟩
      have pm : p ∈ L := List.mem_of_getElem? hp
      have pt : TKey P w s.heap p.2 p.1 := (R.tup p pm).up fun o q => kp _ o q
      have live : t.slot (stop t.mask (tkH P w k) (c + d)).j = .live i := slot_live R.tab.ris hi
      have rest : wpAny (model P w) A (searchRest a (.ref x) (tkH P w k) true f es t (stop t.mask (tkH P w k) (c + d)).j i (stop t.mask (tkH P w k) (c + (d + 1)))) Q E s := by
        unfold searchRest
        rw [R.at hp]
        dsimp only [rowF]
        refine wpAny_bind (wpAny_holding (wpAny_eqBool_tuple hu pt hx (wpAny_bind (wpAny_setState_of ho hd R.fits ?_))))
        dsimp only
        by_cases e : p.2 = k
        · exact wp_if_pos (by simp [e]) (wpAny_pure (yes (List.mem_map.mpr ⟨p, pm, e⟩)))
        · refine wp_if_neg (by simp [e]) ?_
          try refine wpAny_bind (wpAny_pure ?_)
          rw [sameMem]
          dsimp only
          simp only [if_true, live, R.at hp, rowF]
          refine wpAny_bind (wpAny_isSame_ref_self (wpAny_bind (wpAny_pure ?_)))
          simp only [if_true]
          refine wp_if_neg (by simp [e]) (ih (c + (d + 1)) _ rfl (by omega) (by omega) fun j q hq hk => ?_)
          obtain ⟨d', a1, a2, a3⟩ := ahead j q hq hk
          refine ⟨d', ?_, a2, a3⟩
          rcases Nat.lt_trichotomy d' (c + d) with z | z | z
          · exfalso
            refine before (d' - c) j (by omega) (by rw [sh, show c + (d' - c) = d' by omega]; exact a3) ?_
            show (es[j]?.map (·.1)).getD 0 = _
            rw [hash j q hq, hk]
          · exfalso
            rw [z] at a3
            have := (slot_live R.tab.ris a3).symm.trans live
            injection this with this
            rw [this, hp] at hq
            exact e ((congrArg Prod.snd (Option.some.inj hq)).trans hk)
          · omega
      by_cases ld : t.led = true
      · refine wp_if_neg (by simp [ld]) ?_
        try refine wpAny_bind (wpAny_pure ?_)
        exact rest
      · refine wp_if_pos (by simp [ld]) (wpAny_bind (unseen hx (fun y hy => ?_) (wp_if_neg (by decide) ?_)))
        · obtain ⟨e, he, rfl⟩ := List.mem_map.mp hy
          have me : e ∈ es.toList := by
            have : e ∈ es ∧ e.1 = tkH P w k := by simpa using he
            simpa using this.1
          rw [R.rows] at me
          obtain ⟨q, hq, rfl⟩ := List.mem_map.mp me
          exact ⟨q.2, q.1, rfl, (R.tup q hq).up fun o z => kp _ o z⟩
        · try refine wpAny_bind (wpAny_pure ?_)
          exact rest
    · have pr' : t.probe (fun i => (es[i]?.map (·.1)).getD 0) (tkH P w k) (st.getD (t.probeStart (tkH P w k))) = some (.empty (stop t.mask (tkH P w k) n).j none) := by
        rw [hst, show (stop t.mask (tkH P w k) n) = nth t.mask (stop t.mask (tkH P w k) c) (n - c) by rw [sh, show c + (n - c) = n by omega]]; exact pr
      rw [pr']
      dsimp only
      refine wpAny_pure (no fun mem => ?_)
      obtain ⟨q, hq, hk⟩ := List.mem_map.mp mem
      obtain ⟨j, hj, e⟩ := List.getElem_of_mem hq
      have hq' : L[j]? = some q := by rw [List.getElem?_eq_getElem hj, e]
      obtain ⟨d', a1, a2, a3⟩ := ahead j q hq' hk
      refine before (d' - c) j (by omega) (by rw [sh, show c + (d' - c) = d' by omega]; exact a3) ?_
      show (es[j]?.map (·.1)).getD 0 = _
      rw [hash j q hq', hk]
theorem find_key (R : TSet P w h0 s.heap a L es ep t) (kp : ∀ b o, h0.get? b = some o → s.heap.get? b = some o) {x : Addr} {k : List Str} (hx : TKey P w s.heap k x) (hu : A.units < cLine) {Q : SetFound → Shared → Prop} (yes : k ∈ L.map (·.2) → Q (.there none) s)
    (no : ∀ n, k ∉ L.map (·.2) → (stop t.mask (tkH P w k) n).j ∉ t.place.toList → (∀ c, c < n → (stop t.mask (tkH P w k) c).j ∈ t.place.toList) → Q (.free (stop t.mask (tkH P w k) n).j false) s) : wpAny (model P w) A (setSearch a (.ref x) (tkH P w k) true) Q E s := by
  have room := R.room
  obtain ⟨n, hn, free, full⟩ := R.tab.first (by rw [List.length_map]; omega) (tkH P w k)
  have small : 10 * SetTable.turns t.mask ≤ 1420 := by
    unfold SetTable.turns
    rcases R.tab.mok with e | e | e <;> omega
  unfold setSearch
  refine find_from R kp hx hu hn free full yes (fun q => no n q free full) 100000 0 none rfl (Nat.zero_le _) (by omega) fun i p hp hk => ?_
  have hi : (L.map fun p => tkH P w p.2)[i]? = some (tkH P w k) := by rw [List.getElem?_map, hp, ← hk]; rfl
  have il : i < t.place.toList.length := by
    have z1 := (List.getElem?_eq_some_iff.mp hp).1
    have z2 := R.tab.sz
    rw [List.length_map] at z2
    rw [Array.length_toList]
    omega
  obtain ⟨c, hc, e⟩ := R.tab.before free hi (List.getElem?_eq_getElem il)
  exact ⟨c, Nat.zero_le _, hc, by rw [List.getElem?_eq_getElem il]; exact congrArg some e.symm⟩
theorem ent_same {h' : Heap} {x : Addr} {k : List Str} {o : Obj} (hx : TKey P w s.heap k x) (ho : s.heap.get? a = some o) (hd : o.data = .set es ep t) (sb : Heap.SameBut a s.heap h') : TKey P w h' k x := by
  obtain ⟨o', items, n, ho', hc, hd', hi⟩ := hx
  have ne : x ≠ a := by
    rintro rfl
    rw [ho] at ho'; cases ho'
    rw [hd] at hd'; cases hd'
  exact ⟨o', items, n, (sb.2 x ne).trans ho', hc, hd', hi⟩
/-- the entries in the order of a table laid anew -/
theorem in_order (L : List Ent) (es : Array (Int × Value)) (order : Array Nat) (hr : es.toList = L.map (rowF P w)) (hp : order.toList.Perm (List.range L.length)) :
    ∃ L2 : List Ent, (order.filterMap (es[·]?)).toList = L2.map (rowF P w) ∧ L2.Perm L ∧ (L2.map fun p => tkH P w p.2) = order.toList.map fun i => (es.map (·.1)).getD i 0 := by
  have eg : ∀ i : Nat, es[i]? = (L[i]?).map (rowF P w) := fun i => by rw [← Array.getElem?_toList, hr, List.getElem?_map]
  have inr : ∀ i ∈ order.toList, i < L.length := fun i hi => List.mem_range.mp (hp.mem_iff.mp hi)
  refine ⟨order.toList.filterMap (L[·]?), ?_, ?_, ?_⟩
  · rw [Array.toList_filterMap, List.map_filterMap]
    exact congrArg (fun f => List.filterMap f order.toList) (funext eg)
  · have h1 := hp.filterMap (L[·]?)
    have h2 : (List.range L.length).filterMap (L[·]?) = L := by
      apply List.ext_getElem?
      intro j
      have key : ∀ (l : List Ent), (List.range l.length).filterMap (l[·]?) = l := fun l => by
        induction l with
        | nil => rfl
        | cons y l ih =>
          rw [List.length_cons, List.range_succ_eq_map, List.filterMap_cons]
          simp only [List.getElem?_cons_zero, List.filterMap_map]
          congr 1
      rw [key]
    rw [h2] at h1
    exact h1
  · rw [List.map_filterMap]
    have key : ∀ l : List Nat, (∀ i ∈ l, i < L.length) → l.filterMap (fun i => (L[i]?).map fun p => tkH P w p.2) = l.map fun i => (es.map (·.1)).getD i 0 := fun l => by
      induction l with
      | nil => intro _; rfl
      | cons i l ih =>
        intro hl
        have hi := hl i (by simp)
        have e1 : (es.map (·.1)).getD i 0 = tkH P w L[i].2 := by
          have : (es.map (·.1))[i]? = some (tkH P w L[i].2) := by rw [Array.getElem?_map, eg, List.getElem?_eq_getElem hi]; rfl
          simp [Array.getD_eq_getD_getElem?, this]
        rw [List.filterMap_cons, List.getElem?_eq_getElem hi, List.map_cons, e1, ← ih fun j hj => hl j (by simp [hj])]
        rfl
    exact key _ inr
theorem relay_set {o : Obj} (ho : s.heap.get? a = some o) (hex : o.ExactSet) (hd : o.data = .set es ep t) (rows : es.toList = L.map (rowF P w)) (T : TabOk t (L.map fun p => tkH P w p.2)) (hm : L.length ≤ t.mask) (nd : (L.map (·.2)).Nodup) (tup : ∀ p ∈ L, TKey P w h0 p.2 p.1)
    (ld : w.params.followText "set-order" = true ∨ t.led = true) {want m : Nat} (hw : SetTable.sizeAbove want - 1 = m) (hM : MaskOk m) (hw2 : SetTable.sizeAbove want ≤ 128) (room : L.length * 5 < m * 3) (few : L.length < 64) {Q : Unit → Shared → Prop}
    (hQ : ∀ h' L' es' ep' t', Heap.SameBut a s.heap h' → TSet P w h0 h' a L' es' ep' t' → L'.Perm L → Q () { s with heap := h' }) : wpAny (model P w) A (setRelay a want) Q E s := by
  have hs : es.size = L.length := by rw [← Array.length_toList, rows, List.length_map]
  obtain ⟨t', order, e, pm, T', em, el, _, _⟩ := relaid_ok t (hs := es.map (·.1)) (wanted := want) hw hM (by rw [Array.size_map, hs]; omega)
  rw [Array.size_map, hs] at pm
  obtain ⟨L2, r1, r2, r3⟩ := in_order L es order rows pm
  rw [← r3] at T'
  have hs2 : (order.filterMap (es[·]?)).size = es.size := by rw [← Array.length_toList, r1, List.length_map, r2.length_eq, hs]
  rw [setRelay_eq]
  refine wpAny_bind (wpAny_setState_of ho hd (fits_of hs T hm) ?_)
  dsimp only
  refine wp_if_neg (by rw [sizeLine_eq]; omega) ?_
  try refine wpAny_bind (wpAny_pure ?_)
  rw [e]
  dsimp only
  refine wpAny_bind (wp_if_neg (by rw [hs2]; simp) ?_)
  try refine wpAny_bind (wpAny_pure ?_)
  refine wpAny_pure ?_
  dsimp only
  refine wpAny_storeSet_of ho hd ?_ (by rw [hs2, hs, sizeLine_eq]; omega)
  refine hQ _ L2 _ (ep + 1) t' (Heap.SameBut.update ..) ⟨⟨_, store_at ho hd, hex, rfl⟩, r1, T', (r2.map (·.2)).nodup_iff.mpr nd, fun p q => tup p (r2.mem_iff.mp q), by rw [el]; exact ld, by rw [r2.length_eq, em]; exact room⟩ r2
theorem tabOk_plain {t : SetTable} {hs : List Int} (T : TabOk t hs) (b : Bool) : TabOk { t with plain := b } hs := ⟨T.ris, T.dm, T.sz, T.mok, T.bd, T.reach⟩
theorem add_key (R : TSet P w h0 s.heap a L es ep t) (kp : ∀ b o, h0.get? b = some o → s.heap.get? b = some o) {x : Addr} {k : List Str} (hx : TKey P w h0 k x) (hu : A.units < cLine) (few : L.length + 1 < 64) {Q : Bool → Shared → Prop}
    (hQ : ∀ r h' L' es' ep' t', Heap.SameBut a s.heap h' → TSet P w h0 h' a L' es' ep' t' → (k ∈ L.map (·.2) → L' = L) → (k ∉ L.map (·.2) → L'.Perm ((x, k) :: L)) → Q r { s with heap := h' }) : wpAny (model P w) A (setAddHashed a (.ref x) (tkH P w k)) Q E s := by
  have hxs : TKey P w s.heap k x := hx.up fun o q => kp _ o q
  obtain ⟨o, ho, hex, hd⟩ := R.ob
  have hs := R.size
  have room := R.room
  unfold setAddHashed
  refine wpAny_holding ?_
  rw [show (100000 : Nat) = 99999 + 1 from rfl, setAddHashedIn_succ]
  refine wpAny_bind (wpAny_setState_of ho hd R.fits ?_)
  dsimp only
  refine wp_if_neg (by simp [byScan, Value.scannable]) ?_
  try refine wpAny_bind (wpAny_pure ?_)
  refine wpAny_bind (find_key R kp hxs hu (fun mem => ?_) fun n mem free full => ?_)
  · exact wpAny_pure (hQ false s.heap L es ep t (Heap.SameBut.refl a s.heap) R (fun _ => rfl) fun z => absurd mem z)
  · dsimp only
    refine wpAny_bind (wpAny_setState_of ho hd R.fits ?_)
    dsimp only
    obtain ⟨q1, q2, q3, q4, q5, q6, q7, q8, q9⟩ := R.tab.put free full
    have tail : ∀ (b : Bool), let t1 := { (t.put (stop t.mask (tkH P w k) n).j).1 with plain := b }
        wpAny (model P w) A (do
          storeSet a (SetTable.insertAt es (t.put (stop t.mask (tkH P w k) n).j).2 (tkH P w k, Value.ref x)) t1
          if !false && t1.tooFull then setRelay a (SetTable.grown (es.size + 1))
          return true) Q E s := by
      intro b t1
      rw [q1]
      have T1 : TabOk t1 _ := tabOk_plain q3 b
      have m1 : t1.mask = t.mask := q4
      have l1 : t1.led = t.led := q5
      have f1 : t1.fill = L.length + 1 := by have := q9; rw [List.length_map] at this; exact this
      generalize t1 = t1 at T1 m1 l1 f1 ⊢
      generalize SetTable.below t.place (stop t.mask (tkH P w k) n).j = at_ at q2 T1 ⊢
      rw [List.length_map] at q2
      have rows1 : (SetTable.insertAt es at_ (tkH P w k, Value.ref x)).toList = (L.take at_ ++ (x, k) :: L.drop at_).map (rowF P w) := by
        rw [SetTable.toList_insertAt, R.rows, List.map_append, List.map_cons, List.map_take, List.map_drop]; rfl
      have pm : (L.take at_ ++ (x, k) :: L.drop at_).Perm ((x, k) :: L) := by
        have := List.perm_middle (a := (x, k)) (l₁ := L.take at_) (l₂ := L.drop at_)
        rwa [List.take_append_drop] at this
      rw [← List.map_take, ← List.map_drop, ← List.map_cons (f := fun p : Ent => tkH P w p.2) (a := (x, k)), ← List.map_append] at T1
      generalize SetTable.insertAt es at_ (tkH P w k, Value.ref x) = es1 at rows1 ⊢
      generalize L.take at_ ++ (x, k) :: L.drop at_ = L1 at rows1 pm T1
      have len1 : L1.length = L.length + 1 := pm.length_eq
      have hs1 : es1.size = L1.length := by rw [← Array.length_toList, rows1, List.length_map]
      have nd1 : (L1.map (·.2)).Nodup := (pm.map (·.2)).nodup_iff.mpr (List.nodup_cons.mpr ⟨mem, R.nd⟩)
      have tup1 : ∀ p ∈ L1, TKey P w h0 p.2 p.1 := fun p hp => by
        rcases List.mem_cons.mp (pm.mem_iff.mp hp) with e | e
        · rw [e]; exact hx
        · exact R.tup p e
      have ld1 : w.params.followText "set-order" = true ∨ t1.led = true := by rw [l1]; exact R.led
      refine wpAny_bind (wpAny_storeSet_of ho hd ?_ (by rw [hs1, len1, sizeLine_eq]; omega))
      have sb : Heap.SameBut a s.heap (s.heap.update a (Obj.putSet es1 t1)) := Heap.SameBut.update ..
      have ho1 := store_at (es' := es1) (t' := t1) ho hd
      generalize s.heap.update a (Obj.putSet es1 t1) = h1 at sb ho1 ⊢
      by_cases hf : t1.tooFull = true
      · have lots : (L.length + 1) * 5 ≥ t1.mask * 3 := by
          have := hf
          unfold SetTable.tooFull at this
          rw [decide_eq_true_eq, f1] at this
          exact this
        rw [m1] at lots
        have two : (t.mask = 7 ∧ L.length = 4) ∨ (t.mask = 31 ∧ L.length = 18) := by
          rcases R.tab.mok with e | e | e
          · exact .inl ⟨e, by rw [e] at lots room; omega⟩
          · exact .inr ⟨e, by rw [e] at lots room; omega⟩
          · exfalso; rw [e] at lots; omega
        rw [hs]
        have go : ∀ m, SetTable.sizeAbove (SetTable.grown (L.length + 1)) - 1 = m → MaskOk m → SetTable.sizeAbove (SetTable.grown (L.length + 1)) ≤ 128 → (L.length + 1) * 5 < m * 3 →
            wpAny (model P w) A (setRelay a (SetTable.grown (L.length + 1))) (fun _ s' => wpAny (model P w) A (pure true) Q E s') E { s with heap := h1 } := fun m e1 e2 e3 e4 =>
          relay_set (s := { s with heap := h1 }) ho1 hex rfl rows1 T1 (by rw [m1, len1]; rcases two with ⟨z, z2⟩ | ⟨z, z2⟩ <;> omega) nd1 tup1 ld1 e1 e2 e3 (by rw [len1]; exact e4) (by rw [len1]; exact few) fun h2 L2 es2 ep2 t2 sb2 R2 pm2 =>
            wpAny_pure (hQ true h2 L2 es2 ep2 t2 (sb.trans sb2) R2 (fun z => absurd z mem) fun _ => pm2.trans pm)
        first
          | (refine wpAny_bind ?_; refine wp_if_pos (by simp [hf]) ?_)
          | (refine wp_if_pos (by simp [hf]) ?_; refine wpAny_bind ?_)
        rcases two with ⟨_, z⟩ | ⟨_, z⟩
        · exact go 31 (by rw [z, size_20]) (.inr (.inl rfl)) (by rw [z, size_20]; decide) (by omega)
        · exact go 127 (by rw [z, size_76]) (.inr (.inr rfl)) (by rw [z, size_76]; decide) (by omega)
      · first
          | refine wp_if_neg (by simp [hf]) ?_
          | (refine wpAny_bind ?_; refine wp_if_neg (by simp [hf]) ?_; refine wpAny_pure ?_)
        refine wpAny_pure (hQ true h1 L1 es1 (ep + 1) t1 sb ⟨⟨_, ho1, hex, rfl⟩, rows1, T1, nd1, tup1, ld1, ?_⟩ (fun z => absurd z mem) fun _ => pm)
        have := hf
        unfold SetTable.tooFull at this
        rw [decide_eq_true_eq, f1, m1] at this
        rw [len1, m1]
        omega
    by_cases hp : (t.put (stop t.mask (tkH P w k) n).j).1.plain = true
    · first
        | (refine wpAny_bind ?_; refine wp_if_pos hp (byVal hxs fun r => ?_))
        | (refine wp_if_pos hp (wpAny_bind (byVal hxs fun r => ?_)))
      cases r with
      | true => exact tail (t.put (stop t.mask (tkH P w k) n).j).1.plain
      | false => exact tail false
    · first
        | (refine wpAny_bind ?_; refine wp_if_neg hp (wpAny_pure ?_))
        | (refine wp_if_neg hp (wpAny_bind (wpAny_pure ?_)))
        | (refine wp_if_neg hp ?_)
      exact tail (t.put (stop t.mask (tkH P w k) n).j).1.plain
end
theorem led_or (w : World) : w.params.followText "set-order" = true ∨ (!w.params.followText "set-order") = true := by
  cases w.params.followText "set-order" <;> simp
/-- tuples of texts -/
def tupKit (P : Program) (w : World) (A : Around) (hu : A.units < cLine) : SKit P w A (List Str) where
  inv := fun h0 h a ks => ∃ L es ep t, TSet P w h0 h a L es ep t ∧ (L.map (·.2)).Perm ks
  item := fun h0 k v => ∃ b, v = .ref b ∧ TKey P w h0 k b
  most := 64
  fresh := fun h0 h a ho => ⟨[], #[], 0, _, ⟨⟨_, ho, ⟨rfl, rfl, rfl⟩, rfl⟩, rfl, ⟨List.Pairwise.nil, rfl, rfl, .inl rfl, (fun x q => nomatch q), (fun i h j q => by simp at q)⟩, List.nodup_nil, (fun p q => nomatch q), led_or w, (show 0 * 5 < 7 * 3 by decide)⟩, List.Perm.refl _⟩
  keep := fun h0 h h' a ks iv k => by
    obtain ⟨L, es, ep, t, R, pm⟩ := iv
    obtain ⟨o, ho, r⟩ := R.ob
    exact ⟨L, es, ep, t, ⟨⟨o, k o ho, r⟩, R.rows, R.tab, R.nd, R.tup, R.led, R.room⟩, pm⟩
  add := fun h0 s a ks k v Q E kp h0a iv it hm q => by
    obtain ⟨L, es, ep, t, R, pm⟩ := iv
    obtain ⟨b, rfl, tk⟩ := it
    have hl : L.length = ks.length := by have := pm.length_eq; rwa [List.length_map] at this
    unfold setAdd
    refine wpAny_holding (wpAny_bind (wpAny_pyHash_tuple hu (tk.up fun o z => kp _ o z) ?_))
    refine add_key (s := { s with toks := s.toks + (k.length + 1) }) R kp tk hu (by omega) fun r h' L' es' ep' t' sb R' y n => ?_
    refine q r h' (s.toks + (k.length + 1)) sb (Nat.le_add_right _ _) ⟨L', es', ep', t', R', ?_⟩
    unfold ins
    by_cases e : k ∈ L.map (·.2)
    · rw [y e, if_pos (pm.mem_iff.mp e)]; exact pm
    · rw [if_neg fun z => e (pm.mem_iff.mpr z)]
      exact (show (L'.map (·.2)).Perm (k :: L.map (·.2)) from (n e).map (·.2)).trans (pm.cons k)
  size := fun h0 h a ks iv => by
    obtain ⟨L, es, ep, t, R, pm⟩ := iv
    obtain ⟨o, ho, hex, hd⟩ := R.ob
    have hs : es.size = L.length := by rw [← Array.length_toList, R.rows, List.length_map]
    exact ⟨o, es, ep, t, ho, hex, hd, by rw [hs, ← pm.length_eq, List.length_map], fits_of hs R.tab (by have := R.room; omega)⟩
end
end Pf

set_option Elab.async false
set_option linter.all false
set_option maxRecDepth 100000
set_option maxHeartbeats 8000000
namespace Pf
open PySem L2

/-! ### len(set(t)) -/
def SetO (p : Addr) (n : Nat) : HO := .ext fun h => ∃ o es ep t, h.get? p = some o ∧ o.ExactSet ∧ o.data = .set es ep t ∧ es.size = n ∧ t.fits es.size = true
/-- keys that are texts, keys that are tuples of texts -/
def strL : D → Option (List Str)
  | .tuple l => strsOf l
  | _ => none
def keysS (l : List D) : Option (List Str) := strsOf l
def keysT : List D → Option (List (List Str))
  | [] => some []
  | d :: r => (strL d).bind fun k => (keysT r).map (k :: ·)
theorem keysT_get {w : World} {K : PySem.W.Frag} {F : Hp} : ∀ {v : List V} {d : List D} {ks : List (List Str)}, RpAll w K F v d → keysT d = some ks → ks.length = v.length ∧ ∀ (i : Nat) (x : V), v[i]? = some x → ∃ k b, ks[i]? = some k ∧ x = .ref b ∧ SqT K F b (k.map V.str)
  | _, _, _, .nil, h => by cases h; exact ⟨rfl, fun i x q => by simp at q⟩
  | _, _, _, .cons (v := v) (vs := vs) (d := d) (ds := ds) r t, h => by
    unfold keysT at h
    cases e1 : strL d with
    | none => rw [e1] at h; cases h
    | some k =>
      rw [e1, Option.bind_some] at h
      cases e2 : keysT ds with
      | none => rw [e2] at h; cases h
      | some ks =>
        rw [e2] at h; cases h
        obtain ⟨h1, h2⟩ := keysT_get t e2
        refine ⟨by simp [h1], fun i x q => ?_⟩
        cases i with
        | zero =>
          simp at q; subst q
          cases r with
          | tup hs ha => exact ⟨k, _, rfl, rfl, by rw [rp_strs ha e1] at hs; exact hs⟩
          | _ => cases e1
        | succ i => simpa using h2 i x (by simpa using q)
section
variable {X : Cx}
theorem items_of {P : Program} {w : World} : ∀ {k : List Str} {us : List Value}, Vals (k.map V.str) us → ItemsAre (PySem.strKind P w) k us
  | [], _, r => by cases r; exact .nil
  | x :: k, _, r => by
    cases r with
    | cons r t => obtain ⟨tk, rfl⟩ := r; exact .cons (PySem.strKind_is _ _ _ _) (items_of t)
theorem tkey_of {pins : List (Addr × Obj)} {σ : L2.St} {H : Hp} {s : Shared} {b : Addr} {k : List Str} (I : Inv X pins σ H s) (h : SqT X.K H b (k.map V.str)) : TKey X.prog X.w s.heap k b := by
  obtain ⟨its, r, ⟨o, ho, hc, n, hd⟩, _⟩ := I.tuple h
  exact ⟨o, its.toArray, n, ho, hc, hd, by simpa using items_of r⟩
def rSet (K : PySem.W.Frag) : List V → Hp → VK → Prop := fun xs H Q => ∃ (l : Addr) (vs : List V), xs = [.ref l] ∧ SqT K H l vs ∧
  ((∃ ks : List Str, vs = ks.map V.str ∧ ks.length < 64 ∧ ∀ p, H p = none → Q (.ref p) (upd H p (SetO p (many ks []).length))) ∨
   (∃ ks : List (List Str), ks.length = vs.length ∧ ks.length < 64 ∧ (∀ (i : Nat) (x : V), vs[i]? = some x → ∃ k b, ks[i]? = some k ∧ x = .ref b ∧ SqT K H b (k.map V.str)) ∧ ∀ p, H p = none → Q (.ref p) (upd H p (SetO p (many ks []).length))))
theorem setO_ok {P : Program} {w : World} {H : Hp} {h : Heap} {p : Addr} {n : Nat} (q : ∃ o es ep t, h.get? p = some o ∧ o.ExactSet ∧ o.data = .set es ep t ∧ es.size = n ∧ t.fits es.size = true) : ObjOk P w H h p (SetO p n) := by
  refine ⟨q, ?_, fun h1 h2 ⟨o, es, ep, t, z, r⟩ k => ⟨o, es, ep, t, k o z, r⟩⟩
  obtain ⟨o, _, _, _, z, _⟩ := q
  exact ⟨o, z⟩
theorem cr_set (hc : X.calm = true) (hu : X.A.units + 65 < cLine) : CallR X (.type "set") (rSet X.K) := by
  intro pins s σ H xs us Q I r h
  obtain ⟨l, vs, rfl, hq, h⟩ := h
  cases r with
  | cons r1 r2 =>
    cases r2
    cases r1
    obtain ⟨its, rv, ht, hz⟩ := I.tuple hq
    have hh := I.ok.hd hc
    have hu3 : X.A.in1.in1.in1.units < cLine := by
      have e : X.A.in1.in1.in1.units = X.A.units + 3 := by simp [Around.in1]
      omega
    have len : its.length = vs.length := rv.length.symm
    have fin : ∀ {n : Nat} {h' : Heap} {tk : Nat}, (∃ o es ep t, h'.get? s.heap.objs.size = some o ∧ o.ExactSet ∧ o.data = .set es ep t ∧ es.size = n ∧ t.fits es.size = true) → (∀ b o, s.heap.get? b = some o → h'.get? b = some o) → (∀ p, H p = none → Q (.ref p) (upd H p (SetO p n))) →
        EP X pins σ Q (.ref s.heap.objs.size) { s with heap := h', toks := tk } := fun {n h' tk} q k qq =>
      ⟨.ref s.heap.objs.size, _, I.laid (a := s.heap.objs.size) (o := SetO _ n) k (Nat.le_refl _) (setO_ok q), rfl, qq _ (I.hok.fresh (Nat.le_refl _))⟩
    rcases h with ⟨ks, rfl, few, q⟩ | ⟨ks, hl, few, at_, q⟩
    · refine set_of_tuple (strKit X.prog X.w _) ks hh (show s.heap.IsTuple l its.toArray from ht) (by simpa using len.symm) (fun i v hv => ?_) (by show its.toArray.size < scanBound; unfold scanBound; simp at len ⊢; omega) fun h' tk iv k => fin ((strKit X.prog X.w _).size _ _ _ _ iv) k q
      have hv' : its[i]? = some v := by simpa using hv
      obtain ⟨hi, e⟩ := List.getElem?_eq_some_iff.mp hv'
      have hi2 : i < ks.length := by rw [List.length_map] at len; omega
      obtain ⟨u, e1, e2⟩ := rv.get (i := i) (x := .str ks[i]) (by rw [List.getElem?_map, List.getElem?_eq_getElem hi2]; rfl)
      rw [hv'] at e1; cases e1
      obtain ⟨t, e2⟩ := e2
      exact ⟨ks[i], List.getElem?_eq_getElem hi2, t, e2⟩
    · refine set_of_tuple (tupKit X.prog X.w _ hu3) ks hh (show s.heap.IsTuple l its.toArray from ht) (by simp [len, hl]) (fun i v hv => ?_) (by show its.toArray.size < 64; simp; omega) fun h' tk iv k => fin ((tupKit X.prog X.w _ hu3).size _ _ _ _ iv) k q
      have hv' : its[i]? = some v := by simpa using hv
      obtain ⟨hi, e⟩ := List.getElem?_eq_some_iff.mp hv'
      have hi2 : i < vs.length := by omega
      obtain ⟨u, e1, e2⟩ := rv.get (List.getElem?_eq_getElem hi2)
      rw [hv'] at e1; cases e1
      obtain ⟨k, b, k1, k2, k3⟩ := at_ i _ (List.getElem?_eq_getElem hi2)
      rw [k2] at e2
      exact ⟨k, k1, b, e2, tkey_of I k3⟩
theorem cr_lenSet : CallR X (.builtin "len") (fun xs H Q => ∃ p n, xs = [.ref p] ∧ H p = some (SetO p n) ∧ n < 2 ^ 62 ∧ Q (.int n) H) := by
  intro pins s σ H xs us Q I r h
  obtain ⟨p, n, rfl, hp, hn, q⟩ := h
  cases r with
  | cons r1 r2 =>
    cases r2
    cases r1
    obtain ⟨⟨o, es, ep, t, ho, hex, hd, hs, hf⟩, _⟩ := I.hok p _ hp
    refine call_len_set ho hex hd hf (by omega) ⟨.int n, H, I.tok _, ⟨_, by rw [hs]⟩, q⟩
/-- how many different ones -/
def lensetD : D → Option D
  | .tuple l => if l.length < 64 then match keysS l with
    | some ks => some (.int (many ks []).length)
    | none => (keysT l).map fun ks => .int (many ks []).length
    else none
  | _ => none
theorem many_len {κ : Type} [DecidableEq κ] : ∀ (ks L : List κ), (many ks L).length ≤ ks.length + L.length
  | [], L => by simp [many]
  | k :: ks, L => by
    unfold many
    have := many_len ks (ins k L)
    have := ins_len k L
    simp; omega
theorem strs_len : ∀ {l : List D} {ks : List Str}, strsOf l = some ks → ks.length = l.length
  | [], _, h => by cases h; rfl
  | d :: l, ks, h => by
    cases d with
    | str x =>
      unfold strsOf at h
      cases e : strsOf l with
      | none => rw [e] at h; cases h
      | some k => rw [e] at h; cases h; simp [strs_len e]
    | _ => cases h
variable {a : Expr} {ga : S → Option D} {p1' p2' q1 q2 : Pos}
theorem px_lenset (hc : X.calm = true) (hu : X.A.units + 65 < cLine) (hm : X.mg "len" = none) (hm2 : X.mg "set" = none) (ha : PX X a ga) (hg : Gl X "len" := by rfl) (hg2 : Gl X "set" := by rfl)
    (he : starEach [a] X.env = [(false, eval a X.env)] := by rfl) (he2 : starEach [.Call (.Name "set" p1') [a] [] p2'] X.env = [(false, eval (.Call (.Name "set" p1') [a] [] p2') X.env)] := by rfl) :
    PX X (.Call (.Name "len" q1) [.Call (.Name "set" p1') [a] [] p2'] [] q2) (p1 lensetD ga) := by
  have hset : PE X (.Call (.Name "set" p1') [a] [] p2') (tCB (rSet X.K) (tCons (tM X.w X.K (pur ga)) tNil)) := pe_callTy (cr_set hc hu) hg2 hm2 (by decide +kernel) (pa_cons ha pa_nil he) (by decide) (by decide) he rfl
  refine PE.mono (pe_callB cr_lenSet hg hm (by decide +kernel) (pa_cons hset pa_nil he2) (by decide) (by decide) he2 rfl) fun σ H Q => ?_
  rintro ⟨Z, F0, F, δ, d, δ', st, hf, q⟩
  obtain ⟨hf, rfl⟩ := pur_some hf
  unfold Pf.p1 at hf
  cases h1 : ga δ' with
  | none => rw [h1] at hf; cases hf
  | some x =>
    rw [h1, Option.bind_some] at hf
    refine ⟨Z, F0, F, δ', x, δ', st, pur_of h1, fun v F1 H1 e1 st1 r1 => ?_⟩
    unfold lensetD at hf
    cases r1 with
    | tup hs hal =>
      rename_i l vs ds
      dsimp only at hf
      split at hf
      · rename_i few
        have go : ∀ (n : Nat), n < 64 → d = .int n → ∀ p, H1 p = none → ∃ p' n', [V.ref p] = [.ref p'] ∧ (upd H1 p (SetO p n)) p' = some (SetO p' n') ∧ n' < 2 ^ 62 ∧ Q (.int n') (upd H1 p (SetO p n)) := fun n hn hd p hp =>
          ⟨p, n, rfl, upd_same, by omega, by subst hd; exact q _ _ _ (e1.trans (Gw.new st1.ef hp).f) (st1.grow (Gw.new st1.ef hp)) (.int _)⟩
        cases e : keysS ds with
        | some ks =>
          rw [e] at hf
          have hk := strs_len e
          have := many_len ks []
          refine ⟨_, vs, rfl, ex_t st1.ef hs, .inl ⟨ks, rp_strs hal e, by omega, fun p hp => go _ (by simp at this; omega) (Option.some.inj hf).symm p hp⟩⟩
        | none =>
          rw [e] at hf
          cases e2 : keysT ds with
          | none => rw [e2] at hf; cases hf
          | some ks =>
            rw [e2] at hf
            obtain ⟨k1, k2⟩ := keysT_get hal e2
            have := many_len ks []
            have hl := hal.length
            refine ⟨_, vs, rfl, ex_t st1.ef hs, .inr ⟨ks, k1, by omega, fun i x hx => ?_, fun p hp => go _ (by simp at this; omega) (Option.some.inj hf).symm p hp⟩⟩
            obtain ⟨k, b, z1, z2, z3⟩ := k2 i x hx
            exact ⟨k, b, z1, z2, ex_t st1.ef z3⟩
      · cases hf
    | _ => cases hf
end
end Pf

set_option Elab.async false
set_option linter.all false
set_option maxRecDepth 100000
set_option maxHeartbeats 4000000
namespace Pf
open PySem L2

/-! ### owned lists: read, changed -/
section
variable {w : World} {K : PySem.W.Frag} {F F' H H' Z F0 : Hp} {δ δ' : S} {σ σ' : L2.St} {p : Addr} {i : Nat} {l : List D} {q : Option Addr}
theorem StR.keepH (h : StR w K Z F0 δ σ F H) (e : Ex H H') : StR w K Z F0 δ σ F H' :=
  h.grow ⟨Ex.refl F, e, h.ef.trans e, fun _ a _ => a⟩
theorem join_some {σ : L2.St} {i : Nat} {v : V} (h : (σ[i]?).join = some v) : σ[i]? = some (some v) := by
  cases e : σ[i]? with
  | none => rw [e] at h; cases h
  | some o => rw [e] at h; cases o with
    | none => cases h
    | some u => cases h; rfl
/-- one owned slot's objects are changed -/
theorem StR.chg (h : StR w K Z F0 δ σ F H) {o o' : Ow} (hi : δ[i]? = some (.ow q o)) : ∃ p fp, σ[i]? = some (some (.ref p)) ∧ (∀ p', q = some p' → p = p') ∧ OwR w K F H p o fp ∧ (∀ a, a ∈ fp → F a = none ∧ Z a = none ∧ H a ≠ none) ∧
    ∀ H' fp', (∀ a, a ∉ fp → H a ≠ none → H' a = H a) → (∀ a, a ∈ fp' → H' a ≠ none ∧ (a ∈ fp ∨ H a = none)) → OwR w K F H' p o' fp' → StR w K Z F0 (δ.set i (.ow q o')) σ F H' := by
  obtain ⟨fp, h1, h2, h3⟩ := h.sl
  obtain ⟨p, hv, hq, ho⟩ := h1 i _ hi
  refine ⟨p, fp i, join_some hv, hq, ho, fun a ha => h2 i a ha, fun H' fp' hk hn ho' => ?_⟩
  have kF : ∀ a u, F a = some u → H' a = some u := fun a u e => by
    have : a ∉ fp i := fun z => by have := (h2 i a z).1; rw [e] at this; cases this
    have e' := h.ef a u e
    rw [hk a this (by rw [e']; simp), e']
  have kZ : ∀ a u, Z a = some u → H' a = some u := fun a u e => by
    have : a ∉ fp i := fun z => by have := (h2 i a z).2.1; rw [e] at this; cases this
    have e' := h.ez a u e
    rw [hk a this (by rw [e']; simp), e']
  have oth : ∀ j a, j ≠ i → a ∈ fp j → a ∉ fp i := fun j a hj ha z => hj (h3 j i a ha z)
  have li : i < δ.length := (List.getElem?_eq_some_iff.mp hi).1
  refine ⟨kF, h.e0, kZ, h.fz, by simp [h.len], fun j => if j = i then fp' else fp j, fun j s e => ?_, fun j a ha => ?_, fun j k a hj hk' => ?_⟩
  · dsimp only
    by_cases c : j = i
    · subst c
      rw [List.getElem?_set_self li] at e
      cases e
      rw [if_pos rfl]
      exact ⟨p, hv, hq, ho'⟩
    · rw [List.getElem?_set_ne (Ne.symm c)] at e
      rw [if_neg c]
      exact (h1 j s e).mono (Ex.refl F) fun a ha => hk a (oth j a c ha) (h2 j a ha).2.2
  · dsimp only at ha
    by_cases c : j = i
    · rw [if_pos c] at ha
      obtain ⟨n1, n2⟩ := hn a ha
      rcases n2 with n2 | n2
      · exact ⟨(h2 i a n2).1, (h2 i a n2).2.1, n1⟩
      · exact ⟨h.ef.back n2, h.ez.back n2, n1⟩
    · rw [if_neg c] at ha
      obtain ⟨a1, a2, a3⟩ := h2 j a ha
      refine ⟨a1, a2, ?_⟩
      rw [hk a (oth j a c ha) a3]; exact a3
  · dsimp only at hj hk'
    have key : ∀ k, k ≠ i → a ∈ fp' → a ∈ fp k → False := fun k ck m1 m2 => by
      rcases (hn a m1).2 with n2 | n2
      · exact ck (h3 k i a m2 n2)
      · exact (h2 k a m2).2.2 n2
    by_cases cj : j = i
    · by_cases ck : k = i
      · rw [cj, ck]
      · rw [if_pos cj] at hj; rw [if_neg ck] at hk'; exact (key k ck hj hk').elim
    · by_cases ck : k = i
      · rw [if_neg cj] at hj; rw [if_pos ck] at hk'; exact (key j cj hk' hj).elim
      · rw [if_neg cj] at hj; rw [if_neg ck] at hk'; exact h3 j k a hj hk'
theorem StR.lst (h : StR w K Z F0 δ σ F H) (hi : δ[i]? = some (.ow q (.lst l))) : ∃ p xs, σ[i]? = some (some (.ref p)) ∧ (∀ p', q = some p' → p = p') ∧ H p = some (.lst xs) ∧ RpAll w K F xs l ∧ F p = none ∧ Z p = none ∧
    ∀ xs' l', RpAll w K F xs' l' → StR w K Z F0 (δ.set i (.ow q (.lst l'))) σ F (upd H p (.lst xs')) := by
  obtain ⟨p, fp, a1, a2, a3, a4, _⟩ := h.chg (o' := .lst l) hi
  obtain ⟨e, xs, b1, b2⟩ := a3
  refine ⟨p, xs, a1, a2, b1, b2, (a4 p (by rw [e]; simp)).1, (a4 p (by rw [e]; simp)).2.1, fun xs' l' r => ?_⟩
  obtain ⟨p', fp', c1, c2, c3, c4, c5⟩ := h.chg (o' := .lst l') hi
  rw [a1] at c1; cases c1
  refine c5 _ fp' (fun a ha _ => upd_ne fun z => ha ?_) (fun a ha => ?_) ⟨c3.1, xs', upd_same, r⟩
  · rw [c3.1, z]; simp
  · have : a = p := by rw [c3.1] at ha; simpa using ha
    subst this
    exact ⟨by rw [upd_same]; simp, .inl ha⟩
end

/-! ### lending -/
def lendO : Ow → Option D
  | .lst l => some (.list l)
  | .dic kvs => some (.dict kvs)
  | _ => none
def lendL : Sl → Sl
  | .ow _ o => match lendO o with
    | some d => .im d
    | none => .un
  | s => s
def lendS (δ : S) : S := δ.map lendL
def scal : D → Bool
  | .none => true
  | .bool _ => true
  | .int _ => true
  | .str _ => true
  | _ => false
section
variable {w : World} {K : PySem.W.Frag} {F F' H H' Z F0 : Hp} {δ δ' : S} {σ σ' : L2.St}
theorem rp_scal {v : V} {d : D} (r : Rp w K F v d) (h : scal d = true) : Rp w K F' v d := by
  cases r with
  | non => exact .non
  | bl b => exact .bl b
  | int b => exact .int b
  | str b => exact .str b
  | _ => cases h
open Classical in
theorem StR.lendF (h : StR w K Z F0 δ σ F H) : ∃ F', Ex F F' ∧ Ex F' H ∧ (∀ p, F' p ≠ none → Z p ≠ none → F0 p ≠ none) ∧ ∀ (i : Nat) (s : Sl), (lendS δ)[i]? = some s → SlR w K F' H s (σ[i]?.join) [] := by
  obtain ⟨fp, h1, h2, h3⟩ := h.sl
  let F1 : Hp := fun a => if (∃ i, a ∈ fp i) then H a else F a
  have e1 : Ex F F1 := fun a u e => by
    show (if (∃ i, a ∈ fp i) then H a else F a) = some u
    split
    · exact h.ef a u e
    · exact e
  have e2 : Ex F1 H := fun a u e => by
    have e : (if (∃ i, a ∈ fp i) then H a else F a) = some u := e
    split at e
    · exact e
    · exact h.ef a u e
  have at1 : ∀ i a, a ∈ fp i → F1 a = H a := fun i a ha => by
    show (if (∃ i, a ∈ fp i) then H a else F a) = H a
    rw [if_pos ⟨i, ha⟩]
  refine ⟨F1, e1, e2, fun p hp hz => ?_, fun i s e => ?_⟩
  · have hp : (if (∃ i, p ∈ fp i) then H p else F p) ≠ none := hp
    split at hp
    · rename_i c
      obtain ⟨i, c⟩ := c
      exact absurd (h2 i p c).2.1 hz
    · exact h.fz p hp hz
  · unfold lendS at e
    rw [List.getElem?_map] at e
    cases e0 : δ[i]? with
    | none => rw [e0] at e; cases e
    | some s0 =>
      rw [e0] at e
      cases e
      have k := h1 i s0 e0
      cases s0 with
      | un => trivial
      | im d => obtain ⟨x, a, b⟩ := k; exact ⟨x, a, b.mono e1⟩
      | rw v => exact k
      | fl l => obtain ⟨x, a, b⟩ := k; exact ⟨x, a, ex_l e1 b⟩
      | ow q o =>
        obtain ⟨p, a, _, b⟩ := k
        cases o with
        | lst l =>
          obtain ⟨c, xs, c1, c2⟩ := b
          exact ⟨.ref p, a, .lst (by rw [at1 i p (by rw [c]; simp)]; exact c1) (c2.mono e1)⟩
        | dic l =>
          obtain ⟨c, xs, c1, c2⟩ := b
          exact ⟨.ref p, a, .dic (.inl (by rw [at1 i p (by rw [c]; simp)]; exact c1)) (c2.mono e1)⟩
        | _ => trivial
theorem StR.lend (h : StR w K Z F0 δ σ F H) : ∃ F', Ex F F' ∧ StR w K H F' (lendS δ) σ F' H := by
  obtain ⟨F', a, b, c, d⟩ := h.lendF
  exact ⟨F', a, b, Ex.refl F', Ex.refl H, fun _ z _ => z, by simp [lendS, h.len], fun _ => [], d, fun i p hp => by simp at hp, fun i j p hp => by simp at hp⟩
theorem StR.give (h : StR w K Z F0 δ σ F H) : ∃ F', Ex F F' ∧ StR w K Z F0 (lendS δ) σ F' H := by
  obtain ⟨F', a, b, c, d⟩ := h.lendF
  exact ⟨F', a, b, h.e0.trans a, h.ez, c, by simp [lendS, h.len], fun _ => [], d, fun i p hp => by simp at hp, fun i j p hp => by simp at hp⟩
end
section
variable {X : Cx} {W : WX} {e : Expr} {sts : List Stmt} {f : S → Option D} {t : S → Option Bool} {g : S → Option Out}
def lnt (f : S → Option D) : S → Option D := fun δ => (f (lendS δ)).bind fun d => if scal d then some d else none
theorem px_lend (h : PX X e f) : PX X e (lnt f) := PE.mono h fun σ H Q => by
  rintro ⟨Z, F0, F, δ, d, δ', st, hf, q⟩
  obtain ⟨hf, rfl⟩ := pur_some hf
  unfold lnt at hf
  cases e1 : f (lendS δ') with
  | none => rw [e1] at hf; cases hf
  | some d1 =>
    rw [e1, Option.bind_some] at hf
    split at hf
    · rename_i sc
      cases hf
      obtain ⟨F1, x1, s1⟩ := st.lend
      exact ⟨H, F1, F1, lendS δ', d, lendS δ', s1, pur_of e1, fun v F2 H2 _ st2 r => q v F H2 (Ex.refl F) (st.keepH st2.ez) (rp_scal r sc)⟩
    · cases hf
def lntT (t : S → Option Bool) : S → Option Bool := fun δ => t (lendS δ)
theorem pxt_lend (h : PXT X e t) : PXT X e (lntT t) := PT.mono h fun σ H Q => by
  rintro ⟨Z, F0, F, δ, d, δ', st, hf, q⟩
  obtain ⟨hf, rfl⟩ := pur_some hf
  obtain ⟨F1, x1, s1⟩ := st.lend
  exact ⟨H, F1, F1, lendS δ', d, lendS δ', s1, pur_of hf, fun F2 H2 _ st2 => q F H2 (Ex.refl F) (st.keepH st2.ez)⟩
/-- one slot is given up for good -/
def giveI (i : Nat) (δ : S) : S := match δ[i]? with
  | some s => δ.set i (lendL s)
  | none => δ
def giv (i : Nat) (g : S → Option Out) : S → Option Out := fun δ => g (giveI i δ)
theorem StR.giveI {w : World} {K : PySem.W.Frag} {F H Z F0 : Hp} {δ : S} {σ : L2.St} (h : StR w K Z F0 δ σ F H) (i : Nat) : ∃ F', Ex F F' ∧ StR w K Z F0 (giveI i δ) σ F' H := by
  unfold Pf.giveI
  cases hi : δ[i]? with
  | none => exact ⟨F, Ex.refl F, h⟩
  | some s0 =>
    dsimp only
    obtain ⟨fp, h1, h2, h3⟩ := h.sl
    have li : i < δ.length := (List.getElem?_eq_some_iff.mp hi).1
    let F1 : Hp := fun a => if a ∈ fp i then H a else F a
    have f1 : ∀ a, a ∈ fp i → F1 a = H a := fun a ha => by show (if a ∈ fp i then H a else F a) = _; rw [if_pos ha]
    have f2 : ∀ a, a ∉ fp i → F1 a = F a := fun a ha => by show (if a ∈ fp i then H a else F a) = _; rw [if_neg ha]
    have e1 : Ex F F1 := fun a u e => by
      by_cases c : a ∈ fp i
      · have := (h2 i a c).1; rw [e] at this; cases this
      · rw [f2 a c]; exact e
    have e2 : Ex F1 H := fun a u e => by
      by_cases c : a ∈ fp i
      · rw [f1 a c] at e; exact e
      · rw [f2 a c] at e; exact h.ef a u e
    refine ⟨F1, e1, e2, h.e0.trans e1, h.ez, fun a a1 a2 => ?_, by simp [h.len], fun j => if j = i then [] else fp j, fun j s e => ?_, fun j a ha => ?_, fun j k a hj hk => ?_⟩
    · by_cases c : a ∈ fp i
      · exact absurd (h2 i a c).2.1 a2
      · rw [f2 a c] at a1; exact h.fz a a1 a2
    · dsimp only
      by_cases c : j = i
      · subst c
        rw [List.getElem?_set_self li] at e
        cases e
        rw [if_pos rfl]
        have k := h1 j s0 hi
        cases s0 with
        | un => trivial
        | im d => obtain ⟨x, a, b⟩ := k; exact ⟨x, a, b.mono e1⟩
        | rw v => exact k
        | fl l => obtain ⟨x, a, b⟩ := k; exact ⟨x, a, ex_l e1 b⟩
        | ow q o =>
          obtain ⟨p, a, _, b⟩ := k
          cases o with
          | lst l =>
            obtain ⟨c, xs, c1, c2⟩ := b
            exact ⟨.ref p, a, .lst (by rw [f1 p (by rw [c]; simp)]; exact c1) (c2.mono e1)⟩
          | dic l =>
            obtain ⟨c, xs, c1, c2⟩ := b
            exact ⟨.ref p, a, .dic (.inl (by rw [f1 p (by rw [c]; simp)]; exact c1)) (c2.mono e1)⟩
          | _ => trivial
      · rw [List.getElem?_set_ne (Ne.symm c)] at e
        rw [if_neg c]
        exact (h1 j s e).mono e1 fun q _ => rfl
    · dsimp only at ha
      split at ha
      · simp at ha
      · rename_i c
        obtain ⟨a1, a2, a3⟩ := h2 j a ha
        exact ⟨by rw [f2 a fun z => c (h3 j i a ha z)]; exact a1, a2, a3⟩
    · dsimp only at hj hk
      split at hj
      · simp at hj
      · split at hk
        · simp at hk
        · exact h3 j k a hj hk
theorem pms_giv (i : Nat) (h : PMSs X W sts g) : PMSs X W sts (giv i g) := PSs.mono h fun Dn σ H => by
  rintro ⟨Z, F0, F, δ, o, st, hg, q⟩
  obtain ⟨F1, x1, s1⟩ := st.giveI i
  exact ⟨Z, F0, F1, giveI i δ, o, s1, hg, q.mono x1⟩
end

/-! ### changes of owned lists -/
section
variable {X : Cx} {W : WX} {e : Expr} {f : M D} {g : S → Option D} {pos apos npos : Pos} {i : Nat} {x : Str}
def ownL (i : Nat) (δ : S) : Option (Option Addr × List D) := match δ[i]? with
  | some (.ow q (.lst l)) => some (q, l)
  | _ => none
theorem ownL_some {i : Nat} {δ : S} {q : Option Addr} {l : List D} (h : ownL i δ = some (q, l)) : δ[i]? = some (.ow q (.lst l)) := by
  unfold ownL at h
  split at h
  · rename_i e; cases h; exact e
  · cases h
/-- x.append(e) -/
def appO (i : Nat) (g : S → Option D) : S → Option Out := fun δ => (ownL i δ).bind fun p => (g δ).bind fun d => if p.2.length < sizeLine then some (.nx (δ.set i (.ow p.1 (.lst (p.2 ++ [d]))))) else none
theorem tyV_lst {K : PySem.W.Frag} {H : Hp} {p : Addr} {xs : List V} (h : H p = some (.lst xs)) : tyV K "list" (.ref p) H := .inl ⟨rfl, xs, SqL.of h⟩
theorem pms_append (he : PX X e g) (hN : X.N[i]? = some x := by rfl) (hv : Vis X.env.scope x := by first | exact Or.inl rfl | exact Or.inr (Or.inl rfl) | exact Or.inr (Or.inr rfl))
    (hd : (x == ("__debug__" : Str)) = false := by decide) (hcd : (x == ("__classdict__" : Str)) = false := by decide)
    (hbase : attributeBase (.Name x npos) "append" X.env (eval (.Name x npos) X.env) = eval (.Name x npos) X.env := by rfl)
    (hfew : ((backTo pos (starEach [e] X.env)).all (fun x => !x.1) && (backToKw pos (keywordEach [] X.env)).all (fun x => x.1.isSome)
      && decide ([e].length + ([] : List Keyword).length + (if ([] : List Keyword).isEmpty then 0 else 1) < 30)) = true := by rfl)
    (hline : (apos.endLine == pos.line) = true := by rfl) (hs : starEach [e] X.env = (false, eval e X.env) :: starEach [] X.env := by rfl) {spos : Pos}
    (hsw : swapsWith (.Call (.Attribute (.Name x npos) "append" apos) [e] [] pos) none spos.line X.env = pure false := by rfl) :
    PMS X W (.Expr (.Call (.Attribute (.Name x npos) "append" apos) [e] [] pos) spos) (appO i g) :=
  PS.mono (ps_expr (pe_bm PySem.F.plainAttrs_list PySem.F.slot_list_append PySem.F.type_list_append mt_append (pe_var (i := i) hN hv hd hcd) (pa_cons he pa_nil (hs := hs)) hbase hfew hline hs rfl) hsw) fun Dn σ H => by
  rintro ⟨Z, F0, F, δ, o, st, hg, q⟩
  unfold appO at hg
  cases e1 : ownL i δ with
  | none => rw [e1] at hg; cases hg
  | some pl =>
    obtain ⟨qa, l⟩ := pl
    rw [e1, Option.bind_some] at hg
    cases e2 : g δ with
    | none => rw [e2] at hg; cases hg
    | some d =>
      rw [e2, Option.bind_some] at hg
      split at hg
      · rename_i hl
        cases hg
        have hi := ownL_some e1
        obtain ⟨p, xs, s1, _, s3, _⟩ := st.lst hi
        refine ⟨_, s1, tyV_lst s3, Z, F0, F, δ, d, δ, st, pur_of e2, fun v F2 H2 ex st2 r => ?_⟩
        obtain ⟨p', xs', t1, _, t3, t4, _, _, t5⟩ := st2.lst hi
        rw [s1] at t1; cases t1
        exact ⟨p, xs', v, rfl, rfl, t3, by rw [t4.length]; exact hl, q σ F2 _ ex (t5 (xs' ++ [v]) (l ++ [d]) (t4.append (.cons r .nil)))⟩
      · cases hg
/-- x.extend(e), e a list -/
def extO (i : Nat) (g : S → Option D) : S → Option Out := fun δ => (ownL i δ).bind fun p => (g δ).bind fun d => match d with
  | .list r => if p.2.length + r.length ≤ sizeLine then some (.nx (δ.set i (.ow p.1 (.lst (p.2 ++ r))))) else none
  | _ => none
theorem pms_extend (he : PX X e g) (hN : X.N[i]? = some x := by rfl) (hv : Vis X.env.scope x := by first | exact Or.inl rfl | exact Or.inr (Or.inl rfl) | exact Or.inr (Or.inr rfl))
    (hd : (x == ("__debug__" : Str)) = false := by decide) (hcd : (x == ("__classdict__" : Str)) = false := by decide)
    (hbase : attributeBase (.Name x npos) "extend" X.env (eval (.Name x npos) X.env) = eval (.Name x npos) X.env := by rfl)
    (hfew : ((backTo pos (starEach [e] X.env)).all (fun x => !x.1) && (backToKw pos (keywordEach [] X.env)).all (fun x => x.1.isSome)
      && decide ([e].length + ([] : List Keyword).length + (if ([] : List Keyword).isEmpty then 0 else 1) < 30)) = true := by rfl)
    (hline : (apos.endLine == pos.line) = true := by rfl) (hs : starEach [e] X.env = (false, eval e X.env) :: starEach [] X.env := by rfl) {spos : Pos}
    (hsw : swapsWith (.Call (.Attribute (.Name x npos) "extend" apos) [e] [] pos) none spos.line X.env = pure false := by rfl) :
    PMS X W (.Expr (.Call (.Attribute (.Name x npos) "extend" apos) [e] [] pos) spos) (extO i g) :=
  PS.mono (ps_expr (pe_bm PySem.F.plainAttrs_list PySem.F.slot_list_extend PySem.F.type_list_extend mt_extend (pe_var (i := i) hN hv hd hcd) (pa_cons he pa_nil (hs := hs)) hbase hfew hline hs rfl) hsw) fun Dn σ H => by
  rintro ⟨Z, F0, F, δ, o, st, hg, q⟩
  unfold extO at hg
  cases e1 : ownL i δ with
  | none => rw [e1] at hg; cases hg
  | some pl =>
    obtain ⟨qa, l⟩ := pl
    rw [e1, Option.bind_some] at hg
    cases e2 : g δ with
    | none => rw [e2] at hg; cases hg
    | some d =>
      rw [e2, Option.bind_some] at hg
      split at hg
      · rename_i rr
        split at hg
        · rename_i hl
          cases hg
          have hi := ownL_some e1
          obtain ⟨p, xs, s1, _, s3, _⟩ := st.lst hi
          refine ⟨_, s1, tyV_lst s3, Z, F0, F, δ, _, δ, st, pur_of e2, fun v F2 H2 ex st2 r => ?_⟩
          obtain ⟨p', xs', t1, _, t3, t4, _, _, t5⟩ := st2.lst hi
          rw [s1] at t1; cases t1
          cases r with
          | lst ha hb =>
            rename_i b zs
            exact ⟨p, b, xs', zs, rfl, rfl, t3, st2.ef _ _ ha, by rw [t4.length, hb.length]; exact hl, q σ F2 _ ex (t5 (xs' ++ zs) (l ++ rr) (t4.append hb))⟩
        · cases hg
      · cases hg
/-- x[i] = e -/
def sitO (i : Nat) (gi ge : S → Option D) : S → Option Out := fun δ => (ge δ).bind fun d => (ownL i δ).bind fun p => (gi δ).bind fun k => match k with
  | .int k => match ixN p.2.length k with
    | some j => some (.nx (δ.set i (.ow p.1 (.lst (p.2.set j d)))))
    | none => none
  | _ => none
theorem pms_sit {ix : Expr} {gi : S → Option D} {tpos : Pos} (hi : PX X ix gi) (he : PX X e g) (hN : X.N[i]? = some x := by rfl) (hv : Vis X.env.scope x := by first | exact Or.inl rfl | exact Or.inr (Or.inl rfl) | exact Or.inr (Or.inr rfl))
    (hd : (x == ("__debug__" : Str)) = false := by decide) (hcd : (x == ("__classdict__" : Str)) = false := by decide)
    (ha : ∀ v, assign (.Subscript (.Name x npos) ix tpos) X.env v = (do
      let ov ← holding [v] (eval (.Name x npos) X.env)
      let iv ← holding [v, ov] (eval ix X.env)
      standAt tpos
      holding [v, ov, iv] (setItem ov iv v)
      release [v, ov, iv] []) := by intro _; rfl)
    (hs : swapsWithSole [.Subscript (.Name x npos) ix tpos] e pos.line X.env = pure false := by rfl) (hw : swappedStores [.Subscript (.Name x npos) ix tpos] e X.env = pure none := by rfl)
    (h1 : (assignEach [.Subscript (.Name x npos) ix tpos] X.env).map (·.2) = [assign (.Subscript (.Name x npos) ix tpos) X.env] := by rfl) :
    PMS X W (.Assign [.Subscript (.Name x npos) ix tpos] e pos) (sitO i gi g) :=
  PS.mono (ps_asg he (pg_sub (pe_var (i := i) hN hv hd hcd) hi set_list ha) hs hw h1) fun Dn σ H => by
  rintro ⟨Z, F0, F, δ, o, st, hg, q⟩
  unfold sitO at hg
  cases e2 : g δ with
  | none => rw [e2] at hg; cases hg
  | some d =>
    rw [e2, Option.bind_some] at hg
    cases e1 : ownL i δ with
    | none => rw [e1] at hg; cases hg
    | some pl =>
      obtain ⟨qa, l⟩ := pl
      rw [e1, Option.bind_some] at hg
      cases e3 : gi δ with
      | none => rw [e3] at hg; cases hg
      | some k =>
        rw [e3, Option.bind_some] at hg
        have hi := ownL_some e1
        split at hg
        · rename_i k
          split at hg
          · rename_i j ej
            cases hg
            refine ⟨Z, F0, F, δ, d, δ, st, pur_of e2, fun v F2 H2 ex st2 r => ?_⟩
            obtain ⟨p, xs, s1, _⟩ := st2.lst hi
            refine ⟨_, s1, Z, F0, F2, δ, _, δ, st2, pur_of e3, fun y F3 H3 ex3 st3 r3 => ?_⟩
            cases r3
            obtain ⟨p', xs', t1, _, t3, t4, _, _, t5⟩ := st3.lst hi
            rw [s1] at t1; cases t1
            exact ⟨p, xs', k, j, rfl, rfl, t3, by rw [t4.length]; exact ej, q σ F3 _ (ex.trans ex3) (t5 _ _ (t4.set (r.mono ex3) j))⟩
          · cases hg
        · cases hg
theorem get_list : PGet X (rIxL X.K) := by
  intro pins s σ H x y v u Q I rx ry h
  obtain ⟨p, xs, i, z, rfl, rfl, hq, he, q⟩ := h
  cases rx
  obtain ⟨t, rfl⟩ := ry
  obtain ⟨its, r, pl, hz⟩ := I.list hq
  obtain ⟨j, h1, h2, h3, h4, h5⟩ := atI_get he
  obtain ⟨w, ew, rw'⟩ := r.get h2
  have hl := r.length
  have hn := line63
  have fin : EP X pins σ Q w s := ⟨z, H, I, rw', q⟩
  by_cases h0 : 0 ≤ i
  · have hj : i.toNat = j := by
      rw [seqIndex_of h0 h5] at h1
      exact Option.some.inj h1
    exact wpAny_getItem_list pl.isList h0 (by omega) (by rw [hj]; simpa using ew) fin
  · have hj : (i + (its.toArray.size : Int)).toNat = j := by
      rw [seqIndex_neg (by omega) h4] at h1
      rw [List.size_toArray, ← hl]
      exact Option.some.inj h1
    exact wpAny_getItem_list_neg pl.isList (by omega) (by rw [List.size_toArray] <;> omega) (by omega) (by rw [hj]; simpa using ew) fin
/-- x[i] op= e -/
def sagO (i : Nat) (gi ge : S → Option D) (op : D → D → Option D) : S → Option Out := fun δ => (ownL i δ).bind fun p => (gi δ).bind fun k => (ge δ).bind fun d => match k with
  | .int k => match ixN p.2.length k with
    | some j => match p.2[j]? with
      | some x => match op x d with
        | some z => some (.nx (δ.set i (.ow p.1 (.lst (p.2.set j z)))))
        | none => none
      | none => none
    | none => none
  | _ => none
theorem pms_sag {ix : Expr} {gi : S → Option D} {tpos : Pos} {op : Operator} {ti : TIp} {opd : D → D → Option D} (hi : PX X ix gi) (he : PX X e g) (ho : PIp X op ti) (hd' : OpD X.w X.K ti opd) (hN : X.N[i]? = some x := by rfl) (hv : Vis X.env.scope x := by first | exact Or.inl rfl | exact Or.inr (Or.inl rfl) | exact Or.inr (Or.inr rfl))
    (hd : (x == ("__debug__" : Str)) = false := by decide) (hcd : (x == ("__classdict__" : Str)) = false := by decide)
    (ha : ∀ ov iv new, augStore ix ov iv new = (do holding [new, ov, iv] (setItem ov iv new); release [new, ov, iv] []; pure .next) := by intros; rfl) :
    PMS X W (.AugAssign (.Subscript (.Name x npos) ix tpos) op e pos) (sagO i gi g opd) :=
  PS.mono (ps_augS (pe_var (i := i) hN hv hd hcd) hi get_list he ho set_list ha) fun Dn σ H => by
  rintro ⟨Z, F0, F, δ, o, st, hg, q⟩
  unfold sagO at hg
  cases e1 : ownL i δ with
  | none => rw [e1] at hg; cases hg
  | some pl =>
    obtain ⟨qa, l⟩ := pl
    rw [e1, Option.bind_some] at hg
    cases e3 : gi δ with
    | none => rw [e3] at hg; cases hg
    | some k =>
      rw [e3, Option.bind_some] at hg
      cases e2 : g δ with
      | none => rw [e2] at hg; cases hg
      | some d =>
        rw [e2, Option.bind_some] at hg
        have hi := ownL_some e1
        split at hg
        · rename_i k
          split at hg
          · rename_i j ej
            split at hg
            · rename_i x ex'
              split at hg
              · rename_i z ez
                cases hg
                obtain ⟨p, xs, s1, _⟩ := st.lst hi
                refine ⟨_, s1, Z, F0, F, δ, _, δ, st, pur_of e3, fun v F2 H2 ex st2 r => ?_⟩
                cases r
                obtain ⟨p', xs', t1, _, t3, t4, _, _, t5⟩ := st2.lst hi
                rw [s1] at t1; cases t1
                obtain ⟨u, u1, u2⟩ := t4.get ex'
                refine ⟨p, xs', k, u, rfl, rfl, SqL.of t3, ?_, Z, F0, F2, δ, d, δ, st2, pur_of e2, fun y F3 H3 ex3 st3 r3 => ?_⟩
                · unfold L2.atI
                  rw [t4.length, ej]
                  exact u1
                · refine hd' F3 H3 u y x d z _ st3.ef (u2.mono ex3) r3 ez fun v4 F4 H4 gw r4 => ?_
                  have st4 := st3.grow gw
                  obtain ⟨p'', xs'', w1, _, w3, w4, _, _, w5⟩ := st4.lst hi
                  rw [s1] at w1; cases w1
                  exact ⟨p, xs'', k, j, rfl, rfl, w3, by rw [w4.length]; exact ej, q σ F4 _ ((ex.trans ex3).trans gw.f) (w5 _ _ (w4.set r4 j))⟩
              · cases hg
            · cases hg
          · cases hg
        · cases hg
end
end Pf

set_option Elab.async false
set_option linter.all false
set_option maxRecDepth 100000
set_option maxHeartbeats 4000000
namespace Pf
open PySem L2

/-! ### new owned objects; extra slots in front -/
section
variable {w : World} {K : PySem.W.Frag} {F F' H H' Z F0 : Hp} {δ δ' : S} {σ σ' : L2.St} {p : Addr} {i : Nat} {s : Sl} {v : Option V}
theorem StR.frontIm (h : StR w K Z F0 δ σ F H) {u : V} {d : D} (r : Rp w K F u d) : StR w K Z F0 (.im d :: δ) (some u :: σ) F H := by
  obtain ⟨fp, h1, h2, h3⟩ := h.sl
  refine ⟨h.ef, h.e0, h.ez, h.fz, by simp [h.len], fun j => match j with | 0 => [] | j + 1 => fp j, fun j s e => ?_, fun j a ha => ?_, fun j k a hj hk => ?_⟩
  · cases j with
    | zero => cases e; exact ⟨u, rfl, r⟩
    | succ j => exact h1 j s (by simpa using e)
  · cases j with
    | zero => cases ha
    | succ j => exact h2 j a ha
  · cases j with
    | zero => cases hj
    | succ j => cases k with
      | zero => cases hk
      | succ k => rw [h3 j k a hj hk]
theorem StR.frontOw (h : StR w K Z F0 δ σ F H) {o : Ow} {fp' : List Addr} (e : Ex H H') (hn : ∀ a, a ∈ fp' → H a = none ∧ H' a ≠ none) (ho : OwR w K F H' p o fp') : StR w K Z F0 (.ow none o :: δ) (some (.ref p) :: σ) F H' := by
  have h' := h.keepH e
  obtain ⟨fp, h1, h2, h3⟩ := h.sl
  refine ⟨h'.ef, h'.e0, h'.ez, h'.fz, by simp [h.len], fun j => match j with | 0 => fp' | j + 1 => fp j, fun j s q => ?_, fun j a ha => ?_, fun j k a hj hk => ?_⟩
  · cases j with
    | zero =>
      cases q
      exact ⟨p, rfl, (fun _ z => by cases z), ho⟩
    | succ j =>
      refine (h1 j s (by simpa using q)).mono (Ex.refl F) fun a ha => ?_
      obtain ⟨_, _, c⟩ := h2 j a ha
      cases z : H a with
      | none => exact absurd z c
      | some u => exact e a u z
  · cases j with
    | zero =>
      obtain ⟨n1, n2⟩ := hn a ha
      exact ⟨h.ef.back n1, h.ez.back n1, n2⟩
    | succ j =>
      obtain ⟨a1, a2, a3⟩ := h2 j a ha
      exact ⟨a1, a2, e.fwd a3⟩
  · cases j with
    | zero => cases k with
      | zero => rfl
      | succ k => exact absurd (hn a hj).1 (h2 k a hk).2.2
    | succ j => cases k with
      | zero => exact absurd (hn a hk).1 (h2 j a hj).2.2
      | succ k => rw [h3 j k a hj hk]
/-- the front slot goes to its place -/
theorem StR.move (h : StR w K Z F0 (s :: δ) (v :: σ) F H) : StR w K Z F0 (δ.set i s) (σ.set i v) F H := by
  obtain ⟨fp, h1, h2, h3⟩ := h.sl
  have hl : δ.length = σ.length := by have := h.len; simpa using this
  refine ⟨h.ef, h.e0, h.ez, h.fz, by simp [hl], fun j => if j = i then fp 0 else fp (j + 1), fun j t e => ?_, fun j a ha => ?_, fun j k a hj hk => ?_⟩
  · dsimp only
    by_cases c : j = i
    · subst c
      have li : j < δ.length := by
        have := (List.getElem?_eq_some_iff.mp e).1
        simpa using this
      rw [List.getElem?_set_self li] at e
      cases e
      rw [if_pos rfl, join_set_eq (by rw [← hl]; exact li)]
      exact h1 0 s rfl
    · rw [List.getElem?_set_ne (Ne.symm c)] at e
      rw [if_neg c, join_set_ne (Ne.symm c)]
      exact h1 (j + 1) t (by simpa using e)
  · dsimp only at ha
    split at ha
    · exact h2 0 a ha
    · exact h2 _ a ha
  · dsimp only at hj hk
    split at hj
    · rename_i c1
      split at hk
      · rename_i c2; rw [c1, c2]
      · have := h3 _ _ a hj hk; cases this
    · split at hk
      · have := h3 _ _ a hj hk; cases this
      · have := h3 _ _ a hj hk
        omega
/-- the front slot is set aside for a while -/
theorem StR.aside (h : StR w K Z F0 (s :: δ) (v :: σ) F H) : ∃ Z', StR w K Z' F0 δ σ F H ∧ ∀ δ' σ' F' H', Ex F F' → StR w K Z' F0 δ' σ' F' H' → StR w K Z F0 (s :: δ') (v :: σ') F' H' := by
  obtain ⟨fp, h1, h2, h3⟩ := h.sl
  have hl : δ.length = σ.length := by have := h.len; simpa using this
  let Z1 : Hp := fun a => if a ∈ fp 0 then H a else Z a
  have z1 : ∀ a, a ∈ fp 0 → Z1 a = H a := fun a ha => by show (if a ∈ fp 0 then H a else Z a) = _; rw [if_pos ha]
  have z2 : ∀ a, a ∉ fp 0 → Z1 a = Z a := fun a ha => by show (if a ∈ fp 0 then H a else Z a) = _; rw [if_neg ha]
  refine ⟨Z1, ⟨h.ef, h.e0, fun a u e => ?_, fun a a1 a2 => ?_, hl, fun j => fp (j + 1), fun j t e => h1 (j + 1) t (by simpa using e), fun j a ha => ?_, fun j k a hj hk => ?_⟩, fun δ' σ' F' H' ex st => ?_⟩
  · by_cases c : a ∈ fp 0
    · rw [z1 a c] at e; exact e
    · rw [z2 a c] at e; exact h.ez a u e
  · by_cases c : a ∈ fp 0
    · exact absurd (h2 0 a c).1 a1
    · rw [z2 a c] at a2; exact h.fz a a1 a2
  · obtain ⟨b1, b2, b3⟩ := h2 (j + 1) a ha
    refine ⟨b1, ?_, b3⟩
    rw [z2 a fun c => by have := h3 _ _ a ha c; cases this]
    exact b2
  · have := h3 _ _ a hj hk
    omega
  · obtain ⟨fq, k1, k2, k3⟩ := st.sl
    have keep : ∀ a, a ∈ fp 0 → H' a = H a := fun a ha => by
      obtain ⟨_, _, c⟩ := h2 0 a ha
      cases z : H a with
      | none => exact absurd z c
      | some u => exact st.ez a u (by rw [z1 a ha]; exact z)
    refine ⟨st.ef, st.e0, fun a u e => ?_, fun a a1 a2 => ?_, by simp [st.len], fun j => match j with | 0 => fp 0 | j + 1 => fq j, fun j t e => ?_, fun j a ha => ?_, fun j k a hj hk => ?_⟩
    · have : a ∉ fp 0 := fun c => by have := (h2 0 a c).2.1; rw [e] at this; cases this
      exact st.ez a u (by rw [z2 a this]; exact e)
    · have : a ∉ fp 0 := fun c => a2 (h2 0 a c).2.1
      exact st.fz a a1 (by rw [z2 a this]; exact a2)
    · cases j with
      | zero => cases e; exact (h1 0 s rfl).mono ex fun a ha => keep a ha
      | succ j => exact k1 j t (by simpa using e)
    · cases j with
      | zero =>
        obtain ⟨b1, b2, b3⟩ := h2 0 a ha
        refine ⟨?_, b2, by rw [keep a ha]; exact b3⟩
        cases z : F' a with
        | none => rfl
        | some u =>
          have := st.fz a (by rw [z]; simp) (by rw [z1 a ha]; exact b3)
          exact absurd (h.e0.back b1) this
      | succ j =>
        obtain ⟨b1, b2, b3⟩ := k2 j a ha
        refine ⟨b1, ?_, b3⟩
        by_cases c : a ∈ fp 0
        · exact (h2 0 a c).2.1
        · rw [z2 a c] at b2; exact b2
    · cases j with
      | zero => cases k with
        | zero => rfl
        | succ k =>
          have := (k2 k a hk).2.1
          rw [z1 a hj] at this
          exact absurd this (h2 0 a hj).2.2
      | succ j => cases k with
        | zero =>
          have := (k2 j a hj).2.1
          rw [z1 a hk] at this
          exact absurd this (h2 0 a hk).2.2
        | succ k => rw [k3 j k a hj hk]
end

/-! ### values that go into slots -/
def tMV (w : World) (K : PySem.W.Frag) (f : M Sl) : TE := fun σ H Q => ∃ Z F0 F δ s δ', StR w K Z F0 δ σ F H ∧ f δ = some (s, δ') ∧
  ∀ v F' H', Ex F F' → StR w K Z F0 (s :: δ') (some v :: σ) F' H' → Q v H'
abbrev PMV (X : Cx) (e : Expr) (f : M Sl) : Prop := PE X e (tMV X.w X.K f)
def tMVs (w : World) (K : PySem.W.Frag) (f : M (List Sl)) : TA := fun σ H Q => ∃ Z F0 F δ ss δ', StR w K Z F0 δ σ F H ∧ f δ = some (ss, δ') ∧
  ∀ vs F' H', Ex F F' → vs.length = ss.length → StR w K Z F0 (ss ++ δ') (vs.map some ++ σ) F' H' → Q vs H'
abbrev PMVs (X : Cx) (es : List Expr) (f : M (List Sl)) : Prop := PA X es (tMVs X.w X.K f)
section
variable {X : Cx} {W : WX} {e : Expr} {es : List Expr} {pos : Pos} {f : M D} {gl : S → Option (List D)}
def vIm (f : M D) : M Sl := fun δ => match f δ with
  | some (d, δ') => some (.im d, δ')
  | none => none
theorem pv_im (h : PM X e f) : PMV X e (vIm f) := PE.mono h fun σ H Q => by
  rintro ⟨Z, F0, F, δ, s, δ', st, hf, q⟩
  unfold vIm at hf
  split at hf
  · rename_i d δ1 e1
    cases hf
    exact ⟨Z, F0, F, δ, d, _, st, e1, fun v F' H' ex st' r => q v F' H' ex (st'.frontIm r)⟩
  · cases hf
def vLst (gl : S → Option (List D)) : M Sl := fun δ => (gl δ).bind fun l => if l.length ≤ sizeLine then some (.ow none (.lst l), δ) else none
/-- [..], owned -/
theorem pv_lst (h : PXA X es gl) : PMV X (.List es pos) (vLst gl) := PE.mono (pe_lst h) fun σ H Q => by
  rintro ⟨Z, F0, F, δ, s, δ', st, hf, q⟩
  unfold vLst at hf
  cases e1 : gl δ with
  | none => rw [e1] at hf; cases hf
  | some l =>
    rw [e1, Option.bind_some] at hf
    split at hf
    · rename_i hl
      cases hf
      refine ⟨Z, F0, F, δ, l, δ, st, pur_of e1, fun vs F' H' ex st' r => ⟨by rw [r.length]; exact hl, fun p hp => ?_⟩⟩
      exact q (.ref p) F' _ ex (st'.frontOw (p := p) (o := .lst l) (H' := upd H' p (.lst vs)) (fp' := [p]) (Ex.new hp) (fun a ha => by
        have : a = p := by simpa using ha
        subst this
        exact ⟨hp, by rw [upd_same]; simp⟩) ⟨rfl, vs, upd_same, r⟩)
    · cases hf
def vsCons (f : M Sl) (g : M (List Sl)) : M (List Sl) := fun δ => match f δ with
  | some (s, δ1) => match g δ1 with
    | some (ss, δ2) => some (s :: ss, δ2)
    | none => none
  | none => none
theorem pvs_nil : PMVs X [] (fun δ => some ([], δ)) := PA.mono pa_nil fun σ H Q => by
  rintro ⟨Z, F0, F, δ, s, δ', st, hf, q⟩
  cases hf
  exact q [] F H (Ex.refl F) rfl st
theorem pvs_cons {f : M Sl} {g : M (List Sl)} (h1 : PMV X e f) (h2 : PMVs X es g) (hs : starEach (e :: es) X.env = (false, eval e X.env) :: starEach es X.env := by rfl) : PMVs X (e :: es) (vsCons f g) := PA.mono (pa_cons h1 h2 (hs := hs)) fun σ H Q => by
  rintro ⟨Z, F0, F, δ, s, δ', st, hf, q⟩
  unfold vsCons at hf
  split at hf
  · rename_i s1 δ1 e1
    split at hf
    · rename_i ss δ2 e2
      cases hf
      refine ⟨Z, F0, F, δ, s1, δ1, st, e1, fun v F1 H1 ex1 st1 => ?_⟩
      obtain ⟨Z', st2, bk⟩ := st1.aside
      exact ⟨Z', F0, F1, δ1, ss, δ', st2, e2, fun vs F2 H2 ex2 hl st3 => q (v :: vs) F2 H2 (ex1.trans ex2) (by simp [hl]) (bk _ _ F2 H2 ex2 st3)⟩
    · cases hf
  · cases hf
/-- x = e -/
def setV (i : Nat) (f : M Sl) : S → Option Out := fun δ => match f δ with
  | some (s, δ') => some (.nx (δ'.set i s))
  | none => none
theorem pms_setV {i : Nat} {x : Str} {f : M Sl} {pos' : Pos} (hN : X.N.Nodup) (he : PMV X e f) (hi : X.N[i]? = some x := by rfl) (hx : Loc X.env.scope x := by first | exact Or.inl rfl | exact Or.inr rfl) (hs : swapsWith e (some (.Name x pos')) pos.line X.env = pure false := by rfl)
    (hf : X.fn x = true ∨ X.env.scope.names.lookup x = some .local := by first | exact .inl rfl | exact .inr rfl | assumption) : PMS X W (.Assign [.Name x pos'] e pos) (setV i f) :=
  PS.mono (ps_set hN hi hx he hs hf) fun Dn σ H => by
  rintro ⟨Z, F0, F, δ, o, st, hg, q⟩
  unfold setV at hg
  split at hg
  · rename_i s δ1 e1
    cases hg
    exact ⟨Z, F0, F, δ, s, δ1, st, e1, fun v F' H' ex st' => q _ F' H' ex st'.move⟩
  · cases hg
/-- x, y = e1, e2 -/
def parV (i j : Nat) (f : M (List Sl)) : S → Option Out := fun δ => match f δ with
  | some ([s, t], δ') => some (.nx ((δ'.set i s).set j t))
  | _ => none
theorem pms_parV {i j : Nat} {x y : Str} {a b : Expr} {f : M (List Sl)} {px py pt : Pos} {kt k2 pt2} (hc : X.calm = true) (hN : X.N.Nodup) (ha : PMVs X [a, b] f) (hi : X.N[i]? = some x := by rfl) (hj : X.N[j]? = some y := by rfl) (hij : i ≠ j := by decide)
    (hx : X.env.scope.names.lookup x = some .local := by rfl) (hy : X.env.scope.names.lookup y = some .local := by rfl)
    (hw : swappedStores [.Tuple [.Name x px, .Name y py] kt pt] (.Tuple [a, b] k2 pt2) X.env = pure (some [x, y]) := by rfl)
    (hs : swapsWithSole [.Tuple [.Name x px, .Name y py] kt pt] (.Tuple [a, b] k2 pt2) pos.line X.env = pure false := by rfl) :
    PMS X W (.Assign [.Tuple [.Name x px, .Name y py] kt pt] (.Tuple [a, b] k2 pt2) pos) (parV i j f) := PS.mono (ps_par hc hN hi hj hij hx hy ha hw hs) fun Dn σ H => by
  rintro ⟨Z, F0, F, δ, o, st, hg, q⟩
  unfold parV at hg
  split at hg
  · rename_i s t δ1 e1
    cases hg
    refine ⟨Z, F0, F, δ, _, δ1, st, e1, fun vs F' H' ex hl st' => ?_⟩
    match vs, hl, st' with
    | [v, u], _, st' =>
      refine ⟨v, u, rfl, q _ F' H' ex ?_⟩
      have m1 := st'.move (i := i + 1)
      exact StR.move (i := j) (show StR X.w X.K Z F0 (t :: δ1.set i s) (some u :: σ.set i (some v)) F' H' from m1)
  · cases hg
theorem pms_parV3 {i j l : Nat} {x y z : Str} {a b c : Expr} {f : M (List Sl)} {px py pz pt : Pos} {kt k2 pt2} (hc : X.calm = true) (hN : X.N.Nodup) (ha : PMVs X [a, b, c] f) (hi : X.N[i]? = some x := by rfl) (hj : X.N[j]? = some y := by rfl) (hl : X.N[l]? = some z := by rfl) (hij : i ≠ j := by decide) (hil : i ≠ l := by decide) (hjl : j ≠ l := by decide)
    (hx : X.env.scope.names.lookup x = some .local := by rfl) (hy : X.env.scope.names.lookup y = some .local := by rfl) (hz : X.env.scope.names.lookup z = some .local := by rfl)
    (hw : swappedStores [.Tuple [.Name x px, .Name y py, .Name z pz] kt pt] (.Tuple [a, b, c] k2 pt2) X.env = pure (some [x, y, z]) := by rfl)
    (hs : swapsWithSole [.Tuple [.Name x px, .Name y py, .Name z pz] kt pt] (.Tuple [a, b, c] k2 pt2) pos.line X.env = pure false := by rfl) :
    PMS X W (.Assign [.Tuple [.Name x px, .Name y py, .Name z pz] kt pt] (.Tuple [a, b, c] k2 pt2) pos) (fun δ => match f δ with | some ([s, t, u], δ') => some (.nx (((δ'.set i s).set j t).set l u)) | _ => none) := PS.mono (ps_par3 hc hN hi hj hl hij hil hjl hx hy hz ha hw hs) fun Dn σ H => by
  rintro ⟨Z, F0, F, δ, o, st, hg, q⟩
  dsimp only at hg
  split at hg
  · rename_i s t r δ1 e1
    cases hg
    refine ⟨Z, F0, F, δ, _, δ1, st, e1, fun vs F' H' ex hl st' => ?_⟩
    match vs, hl, st' with
    | [v, u, v3], _, st' =>
      refine ⟨v, u, v3, rfl, q _ F' H' ex ?_⟩
      have m1 := st'.move (i := i + 2)
      have m2 := StR.move (i := j + 1) (show StR X.w X.K Z F0 (t :: r :: δ1.set i s) (some u :: some v3 :: σ.set i (some v)) F' H' from m1)
      exact StR.move (i := l) (show StR X.w X.K Z F0 (r :: (δ1.set i s).set j t) (some v3 :: (σ.set i (some v)).set j (some u)) F' H' from m2)
  · cases hg
end
end Pf

set_option Elab.async false
set_option linter.all false
set_option maxRecDepth 100000
set_option maxHeartbeats 4000000
namespace Pf
open PySem L2

/-! ### calls that change one owned object of the caller's -/
inductive ArgR (w : World) (K : PySem.W.Frag) (F : Hp) (u : V) : List V → List Sl → Prop
  | nil : ArgR w K F u [] []
  | im {v : V} {d : D} {vs : List V} {ss : List Sl} : Rp w K F v d → ArgR w K F u vs ss → ArgR w K F u (v :: vs) (.im d :: ss)
  | fl {a : Addr} {l : List Int} {vs : List V} {ss : List Sl} : SqL K F a (l.map V.int) → ArgR w K F u vs ss → ArgR w K F u (.ref a :: vs) (.fl l :: ss)
  | ow {vs : List V} {ss : List Sl} : ArgR w K F u vs ss → ArgR w K F u (u :: vs) (.un :: ss)
def isUn : Sl → Bool
  | .un => true
  | _ => false
/-- the place k alone is left free -/
def unAt (k : Nat) (ss : List Sl) : Bool := ss.map isUn == (List.replicate ss.length false).set k true
theorem unAt_k {k : Nat} {ss : List Sl} (h : unAt k ss = true) {i : Nat} (hi : ss[i]? = some .un) : i = k := by
  have h : ss.map isUn = (List.replicate ss.length false).set k true := eq_of_beq h
  have e : (ss.map isUn)[i]? = some true := by rw [List.getElem?_map, hi]; rfl
  rw [h] at e
  by_cases c : i = k
  · exact c
  · rw [List.getElem?_set_ne (Ne.symm c), List.getElem?_replicate] at e
    split at e <;> cases e
theorem unAt_at {k : Nat} {ss : List Sl} (h : unAt k ss = true) (hk : k < ss.length) : ss[k]? = some .un := by
  have h : ss.map isUn = (List.replicate ss.length false).set k true := eq_of_beq h
  have e : (ss.map isUn)[k]? = some true := by rw [h, List.getElem?_set_self (by simpa using hk)]
  rw [List.getElem?_map] at e
  cases q : ss[k]? with
  | none => rw [q] at e; cases e
  | some s => rw [q] at e; cases s with
    | un => rfl
    | _ => cases e
section
variable {w : World} {K : PySem.W.Frag} {F F' H H' Z F0 : Hp} {δ δ' : S} {σ σ' : L2.St} {u : V}
theorem ArgR.mono (e : Ex F F') : ∀ {vs : List V} {ss : List Sl}, ArgR w K F u vs ss → ArgR w K F' u vs ss
  | _, _, .nil => .nil
  | _, _, .im r t => .im (r.mono e) (ArgR.mono e t)
  | _, _, .fl r t => .fl (ex_l e r) (ArgR.mono e t)
  | _, _, .ow t => .ow (ArgR.mono e t)
theorem ArgR.length : ∀ {vs : List V} {ss : List Sl}, ArgR w K F u vs ss → vs.length = ss.length
  | _, _, .nil => rfl
  | _, _, .im _ t => by simp [ArgR.length t]
  | _, _, .fl _ t => by simp [ArgR.length t]
  | _, _, .ow t => by simp [ArgR.length t]
theorem ArgR.un : ∀ {vs : List V} {ss : List Sl} {i : Nat}, ArgR w K F u vs ss → ss[i]? = some .un → vs[i]? = some u
  | _, _, _, .nil, e => by simp at e
  | _, _, 0, .im _ _, e => by simp at e
  | _, _, 0, .fl _ _, e => by simp at e
  | _, _, 0, .ow _, _ => rfl
  | _, _, i + 1, .im _ t, e => by simpa using ArgR.un (i := i) t (by simpa using e)
  | _, _, i + 1, .fl _ t, e => by simpa using ArgR.un (i := i) t (by simpa using e)
  | _, _, i + 1, .ow t, e => by simpa using ArgR.un (i := i) t (by simpa using e)
theorem ArgR.at : ∀ {vs : List V} {ss : List Sl} {i : Nat} {s : Sl}, ArgR w K F u vs ss → ss[i]? = some s → s ≠ .un → SlR w K F H s ((vs.map some)[i]?.join) []
  | _, _, _, _, .nil, e, _ => by simp at e
  | _, _, 0, _, .im r _, e, _ => by cases e; exact ⟨_, rfl, r⟩
  | _, _, 0, _, .fl r _, e, _ => by cases e; exact ⟨_, rfl, r⟩
  | _, _, 0, _, .ow _, e, n => by cases e; exact absurd rfl n
  | _, _, i + 1, _, .im _ t, e, n => by simpa using ArgR.at (i := i) t (by simpa using e) n
  | _, _, i + 1, _, .fl _ t, e, n => by simpa using ArgR.at (i := i) t (by simpa using e) n
  | _, _, i + 1, _, .ow t, e, n => by simpa using ArgR.at (i := i) t (by simpa using e) n
theorem StR.lendTo (h : StR w K Z F0 δ σ F H) {j k : Nat} {q : Option Addr} {o : Ow} (hj : δ[j]? = some (.ow q o)) {vs : List V} {ss : List Sl} (hu : σ[j]? = some (some u)) (ar : ArgR w K F u vs ss) (hk : unAt k ss = true) (hk2 : k < ss.length) :
    ∃ p Z', vs[k]? = some (.ref p) ∧ StR w K Z' F (ss.set k (.ow (some p) o)) (vs.map some) F H ∧
      ∀ o' F' H', StR w K Z' F [.ow (some p) o'] [some (.ref p)] F' H' → StR w K Z F0 (δ.set j (.ow q o')) σ F' H' := by
  obtain ⟨fp, h1, h2, h3⟩ := h.sl
  obtain ⟨p, hv, hq, ho⟩ := h1 j _ hj
  have hv := join_some hv
  rw [hu] at hv; cases hv
  have hvk := ar.un (unAt_at hk hk2)
  have lj : j < δ.length := (List.getElem?_eq_some_iff.mp hj).1
  let Z1 : Hp := fun a => if a ∈ fp j then none else H a
  have z1 : ∀ a, a ∈ fp j → Z1 a = none := fun a ha => by show (if a ∈ fp j then none else H a) = _; rw [if_pos ha]
  have z2 : ∀ a, a ∉ fp j → Z1 a = H a := fun a ha => by show (if a ∈ fp j then none else H a) = _; rw [if_neg ha]
  refine ⟨p, Z1, hvk, ⟨h.ef, Ex.refl F, fun a t e => ?_, fun _ z _ => z, by simp [ar.length], fun i => if i = k then fp j else [], fun i s e => ?_, fun i a ha => ?_, fun i i' a hi hi' => ?_⟩, fun o' F' H' st => ?_⟩
  · by_cases c : a ∈ fp j
    · rw [z1 a c] at e; cases e
    · rw [z2 a c] at e; exact e
  · dsimp only
    by_cases c : i = k
    · subst c
      rw [List.getElem?_set_self hk2] at e
      cases e
      rw [if_pos rfl, List.getElem?_map, hvk]
      exact ⟨p, rfl, fun p' z => by cases z; rfl, ho⟩
    · rw [List.getElem?_set_ne (Ne.symm c)] at e
      rw [if_neg c]
      exact ar.at e fun z => c (unAt_k hk (by rw [e, z]))
  · dsimp only at ha
    split at ha
    · obtain ⟨a1, _, a3⟩ := h2 j a ha
      exact ⟨a1, z1 a ha, a3⟩
    · simp at ha
  · dsimp only at hi hi'
    split at hi
    · rename_i c1
      split at hi'
      · rename_i c2; rw [c1, c2]
      · simp at hi'
    · simp at hi
  · obtain ⟨fq, k1, k2, k3⟩ := st.sl
    obtain ⟨p', hp', hq', ho'⟩ := k1 0 _ rfl
    have e' : p' = p := hq' p rfl
    subst e'
    have keep : ∀ i a, i ≠ j → a ∈ fp i → Z1 a = H a := fun i a hi ha => z2 a fun c => hi (h3 i j a ha c)
    have keepH : ∀ i a, i ≠ j → a ∈ fp i → H' a = H a := fun i a hi ha => by
      obtain ⟨_, _, c⟩ := h2 i a ha
      cases z : H a with
      | none => exact absurd z c
      | some t => exact st.ez a t (by rw [keep i a hi ha]; exact z)
    refine ⟨st.ef, h.e0.trans st.e0, fun a t e => ?_, fun a a1 a2 => ?_, by simp [h.len], fun i => if i = j then fq 0 else fp i, fun i s e => ?_, fun i a ha => ?_, fun i i' a hi hi' => ?_⟩
    · have c : a ∉ fp j := fun c => by have := (h2 j a c).2.1; rw [e] at this; cases this
      exact st.ez a t (by rw [z2 a c]; exact h.ez a t e)
    · have c : a ∉ fp j := fun c => a2 (h2 j a c).2.1
      exact h.fz a (st.fz a a1 (by rw [z2 a c]; exact h.ez.fwd a2)) a2
    · dsimp only
      by_cases c : i = j
      · subst c
        rw [List.getElem?_set_self lj] at e
        cases e
        rw [if_pos rfl, hu]
        exact ⟨p', rfl, hq, ho'⟩
      · rw [List.getElem?_set_ne (Ne.symm c)] at e
        rw [if_neg c]
        exact (h1 i s e).mono st.e0 fun a ha => keepH i a c ha
    · dsimp only at ha
      split at ha
      · obtain ⟨a1, a2, a3⟩ := k2 0 a ha
        refine ⟨a1, ?_, a3⟩
        by_cases c : a ∈ fp j
        · exact (h2 j a c).2.1
        · rw [z2 a c] at a2; exact h.ez.back a2
      · rename_i c
        obtain ⟨a1, a2, a3⟩ := h2 i a ha
        refine ⟨?_, a2, by rw [keepH i a c ha]; exact a3⟩
        cases z : F' a with
        | none => rfl
        | some t => exact absurd a1 (st.fz a (by rw [z]; simp) (by rw [keep i a c ha]; exact a3))
    · dsimp only at hi hi'
      have key : ∀ i, i ≠ j → a ∈ fq 0 → a ∈ fp i → False := fun i c m1 m2 => by
        have := (k2 0 a m1).2.1
        rw [keep i a c m2] at this
        exact (h2 i a m2).2.2 this
      split at hi
      · rename_i c1
        split at hi'
        · rename_i c2; rw [c1, c2]
        · rename_i c2; exact (key i' c2 hi hi').elim
      · rename_i c1
        split at hi'
        · exact (key i c1 hi' hi).elim
        · exact h3 i i' a hi hi'
/-- one slot alone is looked at -/
theorem StR.only (h : StR w K Z F0 δ σ F H) {k : Nat} {p : Addr} {o : Ow} (hk : δ[k]? = some (.ow (some p) o)) : StR w K Z F0 [.ow (some p) o] [some (.ref p)] F H := by
  obtain ⟨fp, h1, h2, h3⟩ := h.sl
  obtain ⟨p', hv, hq, ho⟩ := h1 k _ hk
  have e' : p' = p := hq p rfl
  subst e'
  refine ⟨h.ef, h.e0, h.ez, h.fz, rfl, fun i => match i with | 0 => fp k | _ + 1 => [], fun i s e => ?_, fun i a ha => ?_, fun i j a hi hj => ?_⟩
  · cases i with
    | zero => cases e; exact ⟨p', rfl, hq, ho⟩
    | succ i => simp at e
  · cases i with
    | zero => exact h2 k a ha
    | succ i => cases ha
  · cases i with
    | zero => cases j with
      | zero => rfl
      | succ j => cases hj
    | succ i => cases hi
theorem StR.pad (h : StR w K Z F0 δ σ F H) (n : Nat) : StR w K Z F0 (δ ++ List.replicate n .un) (σ ++ List.replicate n none) F H := by
  obtain ⟨fp, h1, h2, h3⟩ := h.sl
  refine ⟨h.ef, h.e0, h.ez, h.fz, by simp [h.len], fp, fun i s e => ?_, h2, h3⟩
  by_cases c : i < δ.length
  · rw [List.getElem?_append_left c] at e
    rw [List.getElem?_append_left (by rw [← h.len]; exact c)]
    exact h1 i s e
  · rw [List.getElem?_append_right (by omega), List.getElem?_replicate] at e
    split at e
    · cases e; trivial
    · cases e
end

/-! ### what such a def promises -/
def spO (w : World) (K : PySem.W.Frag) (k : Nat) (fn : List Sl → Ow → Option (Except Addr D × Ow)) : Sp := fun vs H Q E => ∃ Z F ss p o r o', vs[k]? = some (.ref p) ∧ vs.length = ss.length ∧
  StR w K Z F (ss.set k (.ow (some p) o)) (vs.map some) F H ∧ fn ss o = some (r, o') ∧ match r with
  | .ok d => ∀ v F' H', StR w K Z F [.ow (some p) o'] [some (.ref p)] F' H' → Rp w K F' v d → Q v H'
  | .error c => ∀ F' H', StR w K Z F [.ow (some p) o'] [some (.ref p)] F' H' → E (.ref c) none H'
structure DefO (P : Program) (w : World) (K : PySem.W.Frag) (mg : Str → Option Value) (base : Heap) (k : Nat) (x : Str) (i : Nat) (fn : List Sl → Ow → Option (Except Addr D × Ow)) : Prop where
  ex : ∃ f fd ps, FnOk P w K mg base (L2N.CX P w) k f fd ps (spO w K i fn) ∧ mg x = some (.ref f) ∧ PySem.W.keepIn K (.ref f) = true ∧ Binds K fd ps []
def initO (N : List Str) (k : Nat) (p : Addr) (ss : List Sl) (o : Ow) : S := ss.set k (.ow (some p) o) ++ List.replicate (N.length - ss.length) .un
def ownAt (k : Nat) (p : Addr) (δ : S) : Option Ow := match δ[k]? with
  | some (.ow (some p') o) => if p' = p then some o else none
  | _ => none
theorem ownAt_some {k : Nat} {p : Addr} {δ : S} {o : Ow} (h : ownAt k p δ = some o) : δ[k]? = some (.ow (some p) o) := by
  unfold ownAt at h
  split at h
  · rename_i e
    split at h
    · rename_i c; subst c; cases h; exact e
    · cases h
  · cases h
def outO (k : Nat) (p : Addr) : Out → Option (Except Addr D × Ow)
  | .rt d δ => (ownAt k p δ).map fun o => (.ok d, o)
  | .nx δ => (ownAt k p δ).map fun o => (.ok .none, o)
  | .er c δ => (ownAt k p δ).map fun o => (.error c, o)
  | _ => none
section
variable {P : Program} {w : World} {K : PySem.W.Frag} {mg : Str → Option Value} {base : Heap}
theorem DefO.mono {j k i : Nat} {x : Str} {fn : List Sl → Ow → Option (Except Addr D × Ow)} (F : DefO P w K mg base j x i fn) (h : j ≤ k) : DefO P w K mg base k x i fn := by
  obtain ⟨f, fd, ps, G, r⟩ := F.ex
  exact ⟨f, fd, ps, G.mono h, r⟩
theorem def_own {x : Str} {st : Stmt} {N ps : List Str} {k i : Nat} {g : S → Option Out} {fn : List Sl → Ow → Option (Except Addr D × Ow)} (I : IsDef K mg x st) (S : FnScope N ps (defScope st))
    (bn : ∀ (kV doc pm : Value) (an : Option Addr) (cdv ct : Value) (us : List Value), us.length = ps.length → bindArgs (PySem.W.fnOf x x (defArgs st) (defBody st) (defScope st) .none kV doc pm an cdv ct) ⟨us, []⟩ = pure (ps.zip us))
    (hb : ∀ (f : Addr) (cdv : Value) (A : Around) (outer : List Env) (s : Shared) (H : Hp) (E : XK), Room k (A.deeper (PyProof.Rows.envOfC x (defScope st) s.heap.objs.size f cdv)) → PMSs (cxOf (L2N.CX P w) P w K mg base N x (defScope st) f cdv A outer s H E) (fun c d _ H => E c d H) (defBody st) g)
    (hfn : ∀ ss o r, fn ss o = some r → ss.length = ps.length ∧ ∀ p, (g (initO N i p ss o)).bind (outO i p) = some r) :
    DefO P w K mg base (k + 1) x i fn := by
  obtain ⟨f, fd, kws, F, hm⟩ := I.ex
  refine ⟨f, fd, ps, F.ok S (fun vs H Q E h => ?_) (fun cdv A outer s H vs Q E hr h => ?_), hm, F.kp, F.bindsN bn⟩
  · obtain ⟨Z, F1, ss, p, o, r, o', _, hl, _, e, _⟩ := h
    rw [hl]; exact (hfn ss o _ e).1
  · refine ⟨_, hb f cdv A outer s H E hr, ?_⟩
    obtain ⟨Z, F1, ss, p, o, r, o', hp, hl, st, e, q⟩ := h
    have ho := (hfn ss o _ e).2 p
    have hlN : vs.length ≤ N.length := by
      have := congrArg List.length S.pre
      rw [List.length_take] at this
      have := (hfn ss o _ e).1
      omega
    cases eo : g (initO N i p ss o) with
    | none => rw [eo] at ho; cases ho
    | some oc =>
      rw [eo, Option.bind_some] at ho
      have st0 : StR w K Z F1 (initO N i p ss o) (L2.start N vs) F1 H := by
        have := st.pad (N.length - ss.length)
        unfold initO L2.start
        rw [hl]
        exact this
      refine ⟨Z, F1, F1, _, oc, st0, eo, ?_⟩
      cases oc with
      | rt d' δ' =>
        simp only [outO] at ho
        cases e2 : ownAt i p δ' with
        | none => rw [e2] at ho; cases ho
        | some o2 => rw [e2] at ho; cases ho; exact fun v σ' F' H' _ st rr => q v F' H' (st.only (ownAt_some e2)) rr
      | nx δ' =>
        simp only [outO] at ho
        cases e2 : ownAt i p δ' with
        | none => rw [e2] at ho; cases ho
        | some o2 => rw [e2] at ho; cases ho; exact fun σ' F' H' _ st => q .non F' H' (st.only (ownAt_some e2)) .non
      | er c δ' =>
        simp only [outO] at ho
        cases e2 : ownAt i p δ' with
        | none => rw [e2] at ho; cases ho
        | some o2 => rw [e2] at ho; cases ho; exact fun σ' F' H' _ st => q F' H' (st.only (ownAt_some e2))
      | _ => cases ho
end

/-! ### its arguments -/
def tAX (w : World) (K : PySem.W.Frag) (j : Nat) (ga : S → Option (List Sl)) : TA := fun σ H Q => ∃ Z F0 F δ ss, StR w K Z F0 δ σ F H ∧ ga δ = some ss ∧
  ∀ vs F' H', Ex F F' → StR w K Z F0 δ σ F' H' → (∀ u, σ[j]? = some (some u) → ArgR w K F' u vs ss) → Q vs H'
abbrev PAX (X : Cx) (j : Nat) (es : List Expr) (ga : S → Option (List Sl)) : Prop := PA X es (tAX X.w X.K j ga)
section
variable {X : Cx} {W : WX} {e : Expr} {es : List Expr} {pos : Pos} {g : S → Option D} {ga : S → Option (List Sl)} {i j : Nat} {x : Str}
theorem pax_nil : PAX X j [] (fun _ => some []) := PA.mono pa_nil fun σ H Q => by
  rintro ⟨Z, F0, F, δ, ss, st, hg, q⟩
  cases hg
  exact q [] F H (Ex.refl F) st fun _ _ => .nil
def axIm (g : S → Option D) (ga : S → Option (List Sl)) : S → Option (List Sl) := fun δ => (g δ).bind fun d => (ga δ).bind fun ss => some (.im d :: ss)
theorem pax_im (he : PX X e g) (h : PAX X j es ga) (hs : starEach (e :: es) X.env = (false, eval e X.env) :: starEach es X.env := by rfl) : PAX X j (e :: es) (axIm g ga) := PA.mono (pa_cons he h (hs := hs)) fun σ H Q => by
  rintro ⟨Z, F0, F, δ, ss, st, hg, q⟩
  unfold axIm at hg
  cases e1 : g δ with
  | none => rw [e1] at hg; cases hg
  | some d =>
    rw [e1, Option.bind_some] at hg
    cases e2 : ga δ with
    | none => rw [e2] at hg; cases hg
    | some s2 =>
      rw [e2, Option.bind_some] at hg
      cases hg
      exact ⟨Z, F0, F, δ, d, δ, st, pur_of e1, fun v F1 H1 x1 st1 r1 => ⟨Z, F0, F1, δ, s2, st1, e2, fun vs F2 H2 x2 st2 a2 => q (v :: vs) F2 H2 (x1.trans x2) st2 fun u hu => .im (r1.mono x2) (a2 u hu)⟩⟩
def axFl (i : Nat) (ga : S → Option (List Sl)) : S → Option (List Sl) := fun δ => match δ[i]? with
  | some (.fl l) => (ga δ).bind fun ss => some (.fl l :: ss)
  | _ => none
theorem pax_fl (h : PAX X j es ga) (hN : X.N[i]? = some x := by rfl) (hv : Vis X.env.scope x := by first | exact Or.inl rfl | exact Or.inr (Or.inl rfl) | exact Or.inr (Or.inr rfl))
    (hd : (x == ("__debug__" : Str)) = false := by decide) (hcd : (x == ("__classdict__" : Str)) = false := by decide)
    (hs : starEach ((.Name x pos) :: es) X.env = (false, eval (.Name x pos) X.env) :: starEach es X.env := by rfl) : PAX X j ((.Name x pos) :: es) (axFl i ga) := PA.mono (pa_cons (pe_var (i := i) hN hv hd hcd) h (hs := hs)) fun σ H Q => by
  rintro ⟨Z, F0, F, δ, ss, st, hg, q⟩
  unfold axFl at hg
  split at hg
  · rename_i l hl
    cases e2 : ga δ with
    | none => rw [e2] at hg; cases hg
    | some s2 =>
      rw [e2, Option.bind_some] at hg
      cases hg
      obtain ⟨fp, h1, _, _⟩ := st.sl
      obtain ⟨a, ha, hq⟩ := h1 i _ hl
      exact ⟨_, join_some ha, Z, F0, F, δ, s2, st, e2, fun vs F2 H2 x2 st2 a2 => q (.ref a :: vs) F2 H2 x2 st2 fun u hu => .fl (ex_l x2 hq) (a2 u hu)⟩
  · cases hg
def axOw (j : Nat) (ga : S → Option (List Sl)) : S → Option (List Sl) := fun δ => match δ[j]? with
  | some (.ow _ _) => (ga δ).bind fun ss => some (.un :: ss)
  | _ => none
theorem pax_ow (h : PAX X j es ga) (hN : X.N[j]? = some x := by rfl) (hv : Vis X.env.scope x := by first | exact Or.inl rfl | exact Or.inr (Or.inl rfl) | exact Or.inr (Or.inr rfl))
    (hd : (x == ("__debug__" : Str)) = false := by decide) (hcd : (x == ("__classdict__" : Str)) = false := by decide)
    (hs : starEach ((.Name x pos) :: es) X.env = (false, eval (.Name x pos) X.env) :: starEach es X.env := by rfl) : PAX X j ((.Name x pos) :: es) (axOw j ga) := PA.mono (pa_cons (pe_var (i := j) hN hv hd hcd) h (hs := hs)) fun σ H Q => by
  rintro ⟨Z, F0, F, δ, ss, st, hg, q⟩
  unfold axOw at hg
  split at hg
  · rename_i q0 o hl
    cases e2 : ga δ with
    | none => rw [e2] at hg; cases hg
    | some s2 =>
      rw [e2, Option.bind_some] at hg
      cases hg
      obtain ⟨fp, h1, _, _⟩ := st.sl
      obtain ⟨a, ha, _⟩ := h1 j _ hl
      refine ⟨_, join_some ha, Z, F0, F, δ, s2, st, e2, fun vs F2 H2 x2 st2 a2 => q (.ref a :: vs) F2 H2 x2 st2 fun u hu => ?_⟩
      rw [join_some ha] at hu
      cases hu
      exact .ow (a2 _ (join_some ha))
  · cases hg
end
/-! ### the call -/
def mO (j k : Nat) (fn : List Sl → Ow → Option (Except Addr D × Ow)) (ga : S → Option (List Sl)) : M D := fun δ => match δ[j]? with
  | some (.ow q o) => match ga δ with
    | some ss => if unAt k ss = true ∧ k < ss.length then match fn ss o with
        | some (.ok d, o') => some (d, δ.set j (.ow q o'))
        | _ => none
      else none
    | none => none
  | _ => none
section
variable {X : Cx} {W : WX} {e : Expr} {es : List Expr} {p pos : Pos} {ga : S → Option (List Sl)} {i j l k : Nat} {x : Str} {fn : List Sl → Ow → Option (Except Addr D × Ow)}
theorem pm_defO (G : DefO X.prog X.w X.K X.mg X.base l x i fn) (hr : Room k X.A) (ha : PAX X j (e :: es) ga) (hjk : l ≤ k := by decide) (hg : Gl X x := by rfl) (hdb : (x == ("__debug__" : Str)) = false := by decide) (he : starEach (e :: es) X.env = (false, eval e X.env) :: starEach es X.env := by rfl) (hpl : (backTo pos (starEach es X.env)).any (·.1) = false := by rfl) :
    PM X (.Call (.Name x p) (e :: es) [] pos) (mO j i fn ga) := by
  obtain ⟨f, fd, ps, G, hm, hk, hb⟩ := G.ex
  refine PE.mono (pe_call (E := E0) G (hr.mono hjk) hg hm hk hb .nil passN ha hdb he hpl) fun σ H Q => ?_
  rintro ⟨Z, F0, F, δ, d, δ', st, hf, q⟩
  unfold mO at hf
  split at hf
  · rename_i q0 o hj
    split at hf
    · rename_i ss ea
      split at hf
      · rename_i hu
        split at hf
        · rename_i d1 o' ef
          cases hf
          refine ⟨Z, F0, F, δ, ss, st, ea, fun vs F' H' ex st' ar => ?_⟩
          dsimp only
          rw [List.append_nil]
          obtain ⟨fp, h1, _, _⟩ := st'.sl
          obtain ⟨pa, hpa, _⟩ := h1 j _ hj
          have hpa := join_some hpa
          obtain ⟨p1, Z', hv, st1, bk⟩ := st'.lendTo hj hpa (ar _ hpa) hu.1 hu.2
          exact ⟨Z', F', ss, p1, o, .ok d, o', hv, (ar _ hpa).length, st1, ef, fun v F2 H2 st2 r => q v F2 H2 (ex.trans st2.e0) (bk o' F2 H2 st2) r⟩
        · cases hf
      · cases hf
    · cases hf
  · cases hf
end
end Pf

set_option Elab.async false
set_option linter.all false
set_option maxRecDepth 100000
set_option maxHeartbeats 4000000
namespace Pf
open PySem L2

/-! ### the frozen list of ints -/
section
variable {X : Cx} {i : Nat} {x : Str} {p p2 pos pos2 : Pos} {e : Expr} {g : S → Option D}
def flOf (i : Nat) (δ : S) : Option (List Int) := match δ[i]? with
  | some (.fl l) => some l
  | _ => none
theorem flOf_some {i : Nat} {δ : S} {l : List Int} (h : flOf i δ = some l) : δ[i]? = some (.fl l) := by
  unfold flOf at h
  split at h
  · rename_i e; cases h; exact e
  · cases h
theorem StR.fl {w : World} {K : PySem.W.Frag} {Z F0 F H : Hp} {δ : S} {σ : L2.St} (h : StR w K Z F0 δ σ F H) {l : List Int} (hi : δ[i]? = some (.fl l)) : ∃ a, σ[i]? = some (some (.ref a)) ∧ SqL K F a (l.map V.int) := by
  obtain ⟨fp, h1, _, _⟩ := h.sl
  obtain ⟨a, ha, hq⟩ := h1 i _ hi
  exact ⟨a, join_some ha, hq⟩
def flLen (i : Nat) : S → Option D := fun δ => (flOf i δ).map fun l => .int l.length
theorem px_flLen (hm : X.mg "len" = none) (hN : X.N[i]? = some x := by rfl) (hv : Vis X.env.scope x := by first | exact Or.inl rfl | exact Or.inr (Or.inl rfl) | exact Or.inr (Or.inr rfl))
    (hd : (x == ("__debug__" : Str)) = false := by decide) (hcd : (x == ("__classdict__" : Str)) = false := by decide) (hg : Gl X "len" := by rfl)
    (he : starEach [.Name x p2] X.env = (false, eval (.Name x p2) X.env) :: starEach [] X.env := by rfl) (hpl : (backTo pos (starEach [] X.env)).any (·.1) = false := by rfl) :
    PX X (.Call (.Name "len" p) [.Name x p2] [] pos) (flLen i) := PE.mono (pe_callB cr_len hg hm boot_len (pa_cons (pe_var (i := i) hN hv hd hcd) pa_nil (hs := he)) (by decide) (by decide) he hpl) fun σ H Q => by
  rintro ⟨Z, F0, F, δ, d, δ', st, hf, q⟩
  obtain ⟨hf, rfl⟩ := pur_some hf
  unfold flLen at hf
  cases e1 : flOf i δ' with
  | none => rw [e1] at hf; cases hf
  | some l =>
    rw [e1] at hf; cases hf
    obtain ⟨a, h1, h2⟩ := st.fl (flOf_some e1)
    refine ⟨_, h1, .inl ⟨a, _, rfl, .inl (ex_l st.ef h2), ?_⟩⟩
    rw [List.length_map]
    exact q _ F H (Ex.refl F) st (.int _)
def flAt (i : Nat) (g : S → Option D) : S → Option D := fun δ => (flOf i δ).bind fun l => (g δ).bind fun k => match k with
  | .int k => (L2.atI l k).map PyData.int
  | _ => none
theorem atI_map {α β : Type} (f : α → β) (l : List α) (k : Int) : L2.atI (l.map f) k = (L2.atI l k).map f := by
  unfold L2.atI
  rw [List.length_map]
  cases ixN l.length k with
  | none => rfl
  | some j => exact List.getElem?_map
theorem px_flAt (he : PX X e g) (hN : X.N[i]? = some x := by rfl) (hv : Vis X.env.scope x := by first | exact Or.inl rfl | exact Or.inr (Or.inl rfl) | exact Or.inr (Or.inr rfl))
    (hd : (x == ("__debug__" : Str)) = false := by decide) (hcd : (x == ("__classdict__" : Str)) = false := by decide) (hs : PlainIx e := by exact fun _ _ => rfl) :
    PX X (.Subscript (.Name x p) e pos) (flAt i g) := PE.mono (pe_ix ix_list (pe_var (i := i) hN hv hd hcd) he hs) fun σ H Q => by
  rintro ⟨Z, F0, F, δ, d, δ', st, hf, q⟩
  obtain ⟨hf, rfl⟩ := pur_some hf
  unfold flAt at hf
  cases e1 : flOf i δ' with
  | none => rw [e1] at hf; cases hf
  | some l =>
    rw [e1, Option.bind_some] at hf
    cases e2 : g δ' with
    | none => rw [e2] at hf; cases hf
    | some k =>
      rw [e2, Option.bind_some] at hf
      split at hf
      · rename_i k
        cases e3 : L2.atI l k with
        | none => rw [e3] at hf; cases hf
        | some n =>
          rw [e3] at hf; cases hf
          obtain ⟨a, h1, h2⟩ := st.fl (flOf_some e1)
          refine ⟨_, h1, Z, F0, F, δ', _, δ', st, pur_of e2, fun v F1 H1 x1 st1 r1 => ?_⟩
          cases r1
          exact ⟨a, _, k, .int n, rfl, rfl, ex_l (x1.trans st1.ef) h2, by rw [atI_map, e3]; rfl, q _ F1 H1 x1 st1 (.int _)⟩
      · cases hf
theorem eqv_nil (l : List Int) : PyData.eqv (.list (l.map PyData.int)) (.list []) = l.isEmpty := by
  cases l <;> rfl
theorem dp_ints {K : PySem.W.Frag} {H : Hp} : ∀ l : List Int, DpAll K H (l.map V.int) (l.map PyData.int)
  | [] => .nil
  | i :: l => .cons (.int i) (dp_ints l)
theorem shaped_ints (l : List Int) : SeqAt.shaped (.list (l.map PyData.int)) = true := PySem.W.ke_shaped_ints l
def flNil (i : Nat) : S → Option Bool := fun δ => (flOf i δ).map fun l => l.isEmpty
theorem pxt_flNil (hu : X.A.units + 64 < cLine) (hN : X.N[i]? = some x := by rfl) (hv : Vis X.env.scope x := by first | exact Or.inl rfl | exact Or.inr (Or.inl rfl) | exact Or.inr (Or.inr rfl))
    (hd : (x == ("__debug__" : Str)) = false := by decide) (hcd : (x == ("__classdict__" : Str)) = false := by decide) :
    PXT X (.Compare (.Name x p) [.Eq] [.List [] p2] pos) (flNil i) := PT.mono (pt_cmpR (op_eqD hu) (pe_var (i := i) hN hv hd hcd) (pe_lst pa_nil) rfl) fun σ H Q => by
  rintro ⟨Z, F0, F, δ, d, δ', st, hf, q⟩
  obtain ⟨hf, rfl⟩ := pur_some hf
  unfold flNil at hf
  cases e1 : flOf i δ' with
  | none => rw [e1] at hf; cases hf
  | some l =>
    rw [e1] at hf; cases hf
    obtain ⟨a, h1, h2⟩ := st.fl (flOf_some e1)
    refine ⟨_, h1, by rw [sizeLine_eq]; simp, fun b hb => ?_⟩
    refine ⟨.list (l.map PyData.int), .list [], .lst (ex_l (Ex.new hb) (ex_l st.ef h2)) (dp_ints l), .lst (SqL.of upd_same) .nil, shaped_ints l, rfl, ?_⟩
    rw [eqv_nil]
    refine ⟨_, rfl, ?_⟩
    exact q F _ (Ex.refl F) (st.keepH (Ex.new hb))
end
end Pf

set_option Elab.async false
set_option linter.all false
set_option maxRecDepth 100000
set_option maxHeartbeats 4000000
namespace Pf
open PySem L2

/-! ### own exceptions -/
abbrev xc (K : PySem.W.Frag) (x : Str) : Addr := He.ga K x
structure ExcF (K : PySem.W.Frag) (mg : Str → Option Value) (x : Str) : Prop where
  gC : mg x = some (.ref (xc K x))
  q : PySem.W.excIn K (xc K x) He.veBase "ValueError.__new__" = true
  kC : PySem.W.keepIn K (.ref (xc K x)) = true
  b : PySem.W.subIn K (.ref (xc K x)) (.type "BaseException") = some true
  t : PySem.W.typeIn K (.ref (xc K x)) = some (.type "type")
section
variable {X : Cx} {W : WX} {x : Str} {p pos pos2 : Pos}
theorem pmk_own0 (T : ExcF X.K X.mg x) (hg : Gl X x) (hdb : (x == ("__debug__" : Str)) = false := by decide) : L2N.PMk X (.Call (.Name x p) [] [] pos) (fun _ H Q => Q (.ref (xc X.K x)) none H) := by
  intro pins s σ H Q I h
  refine wpAny_Call_Name_kw (ld_glob I hg T.gC ?_ hdb)
  refine PySem.W.callWith_K0 I.kIn T.kC ?_
  show wpAny _ _ (call (.ref (xc X.K x)) []) _ _ _
  obtain ⟨bm, N, nm, qn, bs, hdct, sn, sub, ab, col, dd, k0, k1, k2, k3, k5, mN, hC, hN, hni, TT⟩ := exc_obj I.kIn T.q
  refine wpAny_call_exc_subT PySem.F.excBase_ValueError TT hC hN hni (fun h' e hm => ?_) (by show 0 ≤ sizeLine; omega)
  exact L2N.mk_of I hm (raises_own T.b T.t) h (I.hok.gone hm.new)
theorem pms_raise (T : ExcF X.K X.mg x) (hc : X.calm = true) (tk : L2N.Takes X W) (hg : Gl X x := by rfl) (hdb : (x == ("__debug__" : Str)) = false := by decide) : PMS X W (.Raise (some (.Call (.Name x p) [] [] pos2)) none pos) (fun δ => some (.er (xc X.K x) δ)) :=
  PS.mono (L2N.ps_raise hc tk (pmk_own0 T hg hdb)) fun Dn σ H => by
  rintro ⟨Z, F0, F, δ, o, st, hf, q⟩
  cases hf
  exact q σ F H (Ex.refl F) st
end
section
variable {X : Cx} {W : WX} {j k : Nat} {x : Str} {p pos spos : Pos} {e : Expr} {es : List Expr} {gl : S → Option (List D)} {fr : List D → Option (Except Addr D)}
/-- f(..) as a statement, f may raise -/
def callRO (fr : List D → Option (Except Addr D)) (gl : S → Option (List D)) : S → Option Out := fun δ => (gl δ).bind fun ds => match fr ds with
  | some (.ok _) => some (.nx δ)
  | some (.error c) => some (.er c δ)
  | none => none
def retRO (fr : List D → Option (Except Addr D)) (gl : S → Option (List D)) : S → Option Out := fun δ => (gl δ).bind fun ds => match fr ds with
  | some (.ok d) => some (.rt d δ)
  | some (.error c) => some (.er c δ)
  | none => none
theorem tS_callR {w : World} {K : PySem.W.Frag} {Dn : Ends} {σ : L2.St} {H : Hp} (Q : VK) {out : D → S → Out} (h : ∃ Z F0 F δ o, StR w K Z F0 δ σ F H ∧ ((gl δ).bind fun ds => match fr ds with
  | some (.ok d) => some (out d δ)
  | some (.error c) => some (.er c δ)
  | none => none) = some o ∧ OutOk w K Dn Z F0 F W o) (hQ : ∀ Z F0 F d δ, OutOk w K Dn Z F0 F W (out d δ) → ∀ v F' H', Ex F F' → StR w K Z F0 δ σ F' H' → Rp w K F' v d → Q v H') : tCallS (spR w K fr) (fun σ => WE W σ) (tMA w K (pur gl)) σ H Q := by
  obtain ⟨Z, F0, F, δ, o, st, hg, q⟩ := h
  cases e1 : gl δ with
  | none => rw [e1] at hg; cases hg
  | some ds =>
    rw [e1, Option.bind_some] at hg
    refine ⟨Z, F0, F, δ, ds, δ, st, pur_of e1, fun vs F1 H1 x1 st1 r1 => ?_⟩
    cases e2 : fr ds with
    | none => rw [e2] at hg; cases hg
    | some r =>
      rw [e2] at hg
      refine ⟨F1, ds, r, st1.ef, r1, e2, ?_⟩
      cases r with
      | ok d =>
        cases hg
        exact fun v F' H' gw rr => hQ Z F0 F d δ q v F' H' (x1.trans gw.f) (st1.grow gw) rr
      | error c =>
        cases hg
        exact fun F' H' gw => q σ F' H' (x1.trans gw.f) (st1.grow gw)
theorem pms_callR (G : DefR X.prog X.w X.K X.mg X.base j x fr) (hr : Room k X.A) (tk : L2N.Takes X W) (ha : PXA X (e :: es) gl) (hjk : j ≤ k := by decide) (hg : Gl X x := by rfl) (hdb : (x == ("__debug__" : Str)) = false := by decide) (he : starEach (e :: es) X.env = (false, eval e X.env) :: starEach es X.env := by rfl) (hpl : (backTo pos (starEach es X.env)).any (·.1) = false := by rfl)
    (hs : swapsWith (.Call (.Name x p) (e :: es) [] pos) none spos.line X.env = pure false := by rfl) :
    PMS X W (.Expr (.Call (.Name x p) (e :: es) [] pos) spos) (callRO fr gl) := by
  obtain ⟨f, fd, ps, G, hm, hk, hb⟩ := G.ex
  exact PS.mono (ps_expr (pe_callS G (hr.mono hjk) hg hm hk hb (fun σ => L2N.passAt tk σ) ha hdb he hpl) hs) fun Dn σ H h => tS_callR (out := fun _ δ => .nx δ) _ h fun Z F0 F d δ q v F' H' ex st r => q σ F' H' ex st
theorem pms_retR (G : DefR X.prog X.w X.K X.mg X.base j x fr) (hr : Room k X.A) (tk : L2N.Takes X W) (ha : PXA X (e :: es) gl) (hjk : j ≤ k := by decide) (hg : Gl X x := by rfl) (hdb : (x == ("__debug__" : Str)) = false := by decide) (he : starEach (e :: es) X.env = (false, eval e X.env) :: starEach es X.env := by rfl) (hpl : (backTo pos (starEach es X.env)).any (·.1) = false := by rfl) :
    PMS X W (.Return (some (.Call (.Name x p) (e :: es) [] pos)) spos) (retRO fr gl) := by
  obtain ⟨f, fd, ps, G, hm, hk, hb⟩ := G.ex
  exact PS.mono (ps_ret (pe_callS G (hr.mono hjk) hg hm hk hb (fun σ => L2N.passAt tk σ) ha hdb he hpl)) fun Dn σ H h => tS_callR (out := fun d δ => .rt d δ) _ h fun Z F0 F d δ q v F' H' ex st r => q v σ F' H' ex st r
end
end Pf

set_option Elab.async false
set_option linter.all false
set_option maxRecDepth 100000
set_option maxHeartbeats 4000000
namespace Pf
open PySem PySem.Spec PyProof.Rows L2 L2H

/-! ### a def that is handed the exception that is handled -/
/-- fw: what it answers to an exception of a class -/
structure FnW (P : Program) (w : World) (K : PySem.W.Frag) (mg : Str → Option Value) (base : Heap) (k : Nat) (f : Addr) (fd : FuncData) (ps : List Str) (fw : Addr → Option D) : Prop where
  one : ps.length = 1
  run : ∀ (A : Around) (outer : List Env) (s : Shared) (H : Hp) (args : Args) (us : List Value) (Q : VK) (p : Addr × Obj) (C : Addr) (d : D) (F : Hp), RoomH k A → Hot1 A p → PinOk outer H s p → L2N.Zn (.ref C) none p.2 → Env0 P w K mg base A outer s H → BindsTo s fd args (ps.zip us) → us = [.ref p.1] → fw C = some d → Ex F H →
    (∀ v F' H', Gw F H F' H' → Rp w K F' v d → Q v H') → codeAny (model P w) A (.call (.ref f) args) (CR CX0 outer P w H s Q E0) s
structure DefW (P : Program) (w : World) (K : PySem.W.Frag) (mg : Str → Option Value) (base : Heap) (k : Nat) (x : Str) (fw : Addr → Option D) : Prop where
  ex : ∃ f fd ps, FnW P w K mg base k f fd ps fw ∧ mg x = some (.ref f) ∧ PySem.W.keepIn K (.ref f) = true ∧ Binds K fd ps []
theorem DefW.mono {P : Program} {w : World} {K : PySem.W.Frag} {mg : Str → Option Value} {base : Heap} {j k : Nat} {x : Str} {fw : Addr → Option D} (G : DefW P w K mg base j x fw) (h : j ≤ k) : DefW P w K mg base k x fw := by
  obtain ⟨f, fd, ps, G, r⟩ := G.ex
  exact ⟨f, fd, ps, ⟨G.one, fun A outer s H args us Q p C d F hr => G.run A outer s H args us Q p C d F (hr.mono h)⟩, r⟩
section
variable {P : Program} {w : World} {K : PySem.W.Frag} {mg : Str → Option Value} {base : Heap}
/-- the slots at its entry -/
def initW (N : List Str) (a : Addr) : S := Sl.rw (.ref a) :: List.replicate (N.length - 1) Sl.un
theorem StR.initW {F H : Hp} {N : List Str} {a : Addr} (ex : Ex F H) : StR w K H F (initW N a) (L2.start N [.ref a]) F H := by
  refine ⟨ex, Ex.refl F, Ex.refl H, fun _ z _ => z, ?_, fun _ => [], fun i s e => ?_, fun i p hp => by simp at hp, fun i j p hp => by simp at hp⟩
  · unfold Pf.initW L2.start
    simp
  · unfold Pf.initW at e
    cases i with
    | zero => cases e; rfl
    | succ i =>
      rw [List.getElem?_cons_succ, List.getElem?_replicate] at e
      split at e
      · cases e; trivial
      · cases e
theorem def_which {x : Str} {st : Stmt} {N ps : List Str} {k : Nat} {g : Addr → Addr → S → Option Out} {fw : Addr → Option D} (I : IsDef K mg x st) (S : FnScope N ps (defScope st)) (hp1 : ps.length = 1)
    (bn : ∀ (kV doc pm : Value) (an : Option Addr) (cdv ct : Value) (us : List Value), us.length = ps.length → bindArgs (PySem.W.fnOf x x (defArgs st) (defBody st) (defScope st) .none kV doc pm an cdv ct) ⟨us, []⟩ = pure (ps.zip us))
    (hb : ∀ (f : Addr) (cdv : Value) (A : Around) (outer : List Env) (s : Shared) (H : Hp) (p : Addr × Obj) (C : Addr), L2N.Zn (.ref C) none p.2 → (∃ vs, p.2.data = .fields vs) → RoomH k (A.deeper (envOfC x (defScope st) s.heap.objs.size f cdv)) →
      PMSs (cxH CX0 P w K mg base N x (defScope st) f cdv A outer s H E0 p) W0 (defBody st) (g p.1 C))
    (hfn : ∀ C d, fw C = some d → ∀ a, (g a C (initW N a)).bind outP = some d) : DefW P w K mg base (k + 1) x fw := by
  obtain ⟨f, fd, kws, F, hm⟩ := I.ex
  have hbd := F.bindsN bn
  have hkp := F.kp
  obtain ⟨oc, od, dV, kV, doc, pm, an, cdv, ct, osl, rfl, lk, hcd, _, _⟩ := F.ex
  refine ⟨f, _, ps, ⟨hp1, fun A outer s H args us Q p C d F0 hr hot hpin hz e0 hb1 hus hfw ex hq => ?_⟩, hm, hkp, hbd⟩
  subst hus
  have KX : K.In s.heap := e0.mod.kin.keeps fun b o e => (e0.bs b o e).1
  have lim : s.heap.NoLimit := e0.mod.nolimit.keeps fun b o e => (e0.bs b o e).1
  have hkind : ∀ y ∈ ps.zip [Value.ref p.1], (defScope st).names.lookup y.1 = some .local ∨ ((defScope st).names.lookup y.1 = some .cell ∧ ((cellsFrom (s.heap.objs.size + 1) (defScope st).names []).lookup y.1).isSome = true) := fun ⟨n, v⟩ hy => by
    rcases S.par n (List.of_mem_zip hy).1 with q | q
    · exact .inl q
    · exact .inr ⟨q, PySem.W.cellsFrom_some _ _ _ (.inl q)⟩
  refine codeAny_call_function hr.depth (KX _ _ lk) rfl S.co S.gen rfl (PySem.W.codeRec_of KX hcd) (hb1 _ _ _ _ ?_)
  refine wpAny_newFunctionEnv_cells S.kind hkind fun env he s1 xx => ?_
  subst he
  refine ⟨lim.keeps xx.toInCall.keep, codeAny_func ?_⟩
  obtain ⟨_, vs0, hvs0, _⟩ := hot
  have ht := hb f cdv A outer s H p C hz ⟨vs0, hvs0⟩ (hr.deeper _)
  have I0 : Inv (cxH CX0 P w K mg base N x (defScope st) f cdv A outer s H E0 p) [] (L2.start N [.ref p.1]) H s1 := inv_startH (vs := [.ref p.1]) S hpin e0 (by rw [hp1]; rfl) (.cons rfl .nil) xx
  have ho := hfn C d hfw p.1
  cases eo : g p.1 C (initW N p.1) with
  | none => rw [eo] at ho; cases ho
  | some oc' =>
    rw [eo, Option.bind_some] at ho
    refine wpAny_mono (ht.run [] s1 (L2.start N [.ref p.1]) H { nx := fun _ H' => Q .non H', rt := Q } I0 ⟨H, F0, F0, _, oc', StR.initW ex, eo, ?_⟩) (fun fl s' hs => ?_) fun e s' hs => hs
    · cases oc' with
      | rt d' δ' => cases ho; exact fun v σ' F' H' _ st rr => hq v F' H' st.gw rr
      | nx δ' => cases ho; exact fun σ' F' H' _ st => hq .non F' H' st.gw .non
      | _ => cases ho
    · have fin : ∀ {σ' : L2.St} {H' : Hp} {v : V} {u : Value}, Inv (cxH CX0 P w K mg base N x (defScope st) f cdv A outer s H E0 p) [] σ' H' s' → RelV v u → Q v H' → CE outer P w H s Q u s' :=
        fun {σ' H' v u} J rv q => ⟨v, H', J.os, J.bare, J.base, J.hok, rv, q⟩
      cases fl with
      | ret u =>
        obtain ⟨v, σ', H', J, rv, q⟩ := hs
        exact fin J rv q
      | next =>
        obtain ⟨σ', H', J, q⟩ := hs
        exact fin (v := V.non) (u := Value.none) J rfl q
      | brk =>
        obtain ⟨_, _, _, q⟩ := hs
        exact False.elim q
      | cont =>
        obtain ⟨_, _, _, q⟩ := hs
        exact False.elim q
end
/-! ### its call, within the suite that holds the exception -/
section
variable {X : Cx} {k l i : Nat} {x n : Str} {p pos np : Pos} {fw : Addr → Option D} {a C : Addr} {oe : Obj} {pn : List (Addr × Obj)}
def tW (w : World) (K : PySem.W.Frag) (i : Nat) (a : Addr) (r : Option D) : TE := fun σ H Q => ∃ F d, σ[i]? = some (some (.ref a)) ∧ r = some d ∧ Ex F H ∧ ∀ v F' H', Gw F H F' H' → Rp w K F' v d → Q v H'
theorem pe_callW (G : DefW X.prog X.w X.K X.mg X.base l x fw) (hr : RoomH k X.A) (hlk : l ≤ k) (hz : L2N.Zn (.ref C) none oe) (hf : ∃ vs, oe.data = .fields vs) (hN : X.N[i]? = some n) (hv : Vis X.env.scope n) (hg : Gl (X.suite a ((a, oe) :: pn)) x)
    (hdb : (x == ("__debug__" : Str)) = false := by decide) (hd : (n == ("__debug__" : Str)) = false := by decide) (hcd : (n == ("__classdict__" : Str)) = false := by decide)
    (he : starEach [.Name n np] X.env = (false, eval (.Name n np) X.env) :: starEach [] X.env := by rfl) (hpl : (backTo pos (starEach [] X.env)).any (·.1) = false := by rfl) :
    PE (X.suite a ((a, oe) :: pn)) (.Call (.Name x p) [.Name n np] [] pos) (tW X.w X.K i a (fw C)) := by
  obtain ⟨f, fd, ps, G, hm, hk, hb⟩ := G.ex
  refine ⟨fun pins s σ H Q I h => ?_⟩
  obtain ⟨F, d, hs, hfw, ex, hq⟩ := h
  refine wpAny_Call_Name_kw (ld_glob I hg hm ?_ hdb)
  have ha : PA (X.suite a ((a, oe) :: pn)) [.Name n np] (tCons (tVar i) tNil) := pa_cons (pe_var (i := i) hN hv hd hcd) pa_nil (hs := he)
  refine PySem.W.callWith_K (h₀ := X.base) I.ok.mod.kin hk (thn (ha.run pos pins s σ H (fun vs H1 => vs = [V.ref a] ∧ H1 = H) I ⟨_, hs, rfl, rfl⟩) fun us s1 ⟨vs, H1, I1, r, q⟩ => ⟨I1.kIn, ?_⟩) he hpl
  obtain ⟨rfl, rfl⟩ := q
  obtain ⟨u, rfl, ru⟩ := r.one
  cases ru
  obtain ⟨vs0, hvs⟩ := hf
  have hot : Hot1 (X.suite a ((a, oe) :: pn)).A (a, oe) := ⟨rfl, vs0, hvs, hz.2.2 vs0 hvs⟩
  have P1 := I1.pin (a, oe) (List.mem_append_left _ List.mem_cons_self)
  have hpin : PinOk (X.suite a ((a, oe) :: pn)).stack H1 s1 (a, oe) := ⟨P1.1, P1.2.1, fun hm => (List.mem_cons.mp (I1.stkSub a hm)).elim P1.2.2.1 P1.2.2.2.1, P1.2.2.2.2⟩
  have b := hb s1 [Value.ref a] I1.kIn (by rw [List.append_nil]; exact G.one.symm)
  rw [List.append_nil] at b
  refine wpAny_call (codeAny_mono (G.run _ (X.suite a ((a, oe) :: pn)).stack s1 H1 ⟨[Value.ref a], []⟩ [Value.ref a] Q (a, oe) C d F ⟨(hr.mono hlk).dp, (hr.mono hlk).un⟩ hot hpin hz I1.env0 b rfl hfw ex hq) fun r s' hq => ?_)
  cases r with
  | error e => exact False.elim hq
  | ok fl =>
    cases fl with
    | ret u => exact I1.after hq
    | next => exact False.elim hq
    | brk => exact False.elim hq
    | cont => exact False.elim hq
end
/-! ### isinstance of it -/
section
variable {X : Cx} {p0 : Addr × Obj} {C : Addr} {i : Nat} {n y : Str} {p pos np yp : Pos} {cv : Value} {b : Bool}
theorem call_isP (E : ExcC X.K C) (hz : L2N.Zn (.ref C) none p0.2) (hf : ∃ vs, p0.2.data = .fields vs) (hp : p0 ∈ X.pn) : CallR X (.builtin "isinstance") (rIsE X.K C p0.1) := by
  intro pins s σ H xs us Q I r h
  obtain ⟨c, cv, b, rfl, hcv, e, q⟩ := h
  cases r with
  | cons rx rr =>
    cases rr with
    | cons rt rr =>
      cases rr
      cases rx
      have ec := hcv _ rt
      subst ec
      obtain ⟨hget, _⟩ := I.pin p0 (List.mem_append_left _ hp)
      obtain ⟨vs, hv⟩ := hf
      have J : PySem.W.InstAt s.heap p0.1 p0.2 C none := by
        obtain ⟨a, oc, od, oda, osl⟩ := p0
        obtain ⟨h1, h2, _⟩ := hz
        dsimp only at h1 h2 hv
        subst h1 h2 hv
        exact ⟨hget, rfl, rfl, trivial⟩
      exact PySem.W.kia_one (PySem.W.handS_kitx_exc E.hg E.hk E.hs E.hd E.ha E.hn E.ht E.hm) I.kIn J e (fun z => nomatch z) fun tk => ⟨.bl b, H, I.kept (t' := tk) fun _ _ z => z, rfl, q⟩
def isEO (i : Nat) (a : Addr) (r : Option Bool) : S → Option D := fun δ => match δ[i]? with
  | some (.rw (.ref b)) => if b = a then r.map PyData.bool else none
  | _ => none
theorem px_isE {v : V} (E : ExcC X.K C) (hz : L2N.Zn (.ref C) none p0.2) (hf : ∃ vs, p0.2.data = .fields vs) (hp : p0 ∈ X.pn) (hm : X.mg "isinstance" = none) (hy : PE X (.Name y yp) (tC v)) (hv : ∀ u, RelV v u → u = cv)
    (hN : X.N[i]? = some n := by rfl) (hvi : Vis X.env.scope n := by first | exact Or.inl rfl | exact Or.inr (Or.inl rfl) | exact Or.inr (Or.inr rfl)) (hg : Gl X "isinstance" := by rfl)
    (hd : (n == ("__debug__" : Str)) = false := by decide) (hcd : (n == ("__classdict__" : Str)) = false := by decide)
    (he : starEach [.Name n np, .Name y yp] X.env = (false, eval (.Name n np) X.env) :: starEach [.Name y yp] X.env := by rfl) (he2 : starEach [.Name y yp] X.env = (false, eval (.Name y yp) X.env) :: starEach [] X.env := by rfl) (hpl : (backTo pos (starEach [.Name y yp] X.env)).any (·.1) = false := by rfl) :
    PX X (.Call (.Name "isinstance" p) [.Name n np, .Name y yp] [] pos) (isEO i p0.1 (PySem.W.kitOne X.K (.ref C) cv)) :=
  PE.mono (pe_callB (call_isP E hz hf hp) hg hm (by decide +kernel) (pa_cons (pe_var (i := i) hN hvi hd hcd) (pa_cons hy pa_nil (hs := he2)) (hs := he)) (by decide) (by decide) he hpl) fun σ H Q => by
  rintro ⟨Z, F0, F, δ, d, δ', st, hf, q⟩
  obtain ⟨hf, rfl⟩ := pur_some hf
  unfold isEO at hf
  split at hf
  · rename_i b hb
    split at hf
    · rename_i eb
      subst eb
      cases e2 : PySem.W.kitOne X.K (.ref C) cv with
      | none => rw [e2] at hf; cases hf
      | some r =>
        rw [e2] at hf; cases hf
        obtain ⟨fp, h1, _, _⟩ := st.sl
        exact ⟨_, join_some (h1 i _ hb), v, cv, r, rfl, hv, e2, q _ F H (Ex.refl F) st (.bl _)⟩
    · cases hf
  · cases hf
end
end Pf

set_option Elab.async false
set_option linter.all false
set_option maxRecDepth 100000
set_option maxHeartbeats 4000000
namespace Pf
open PySem PySem.Spec PyProof.Rows L2 L2H

/-! ### try: .. except C as n: return f(n) -/
def tsW (w : World) (K : PySem.W.Frag) (i : Nat) (fw : Addr → Option D) (a : Addr) (cls : Value) (d : Option Addr) : TS := match cls, d with
  | .ref C, none => tRet (tW w K i a (fw C))
  | _, _ => fun _ _ _ => False
def tryO (i : Nat) (fw : Addr → Option D) (g : S → Option Out) : S → Option Out := fun δ => match g δ with
  | some (.er c δ') => if i < δ'.length then (fw c).map fun d => .rt d δ' else none
  | r => r
section
variable {X : Cx} {Wout : WX} {k l i : Nat} {tx wx n : Str} {c : Value} {body : List Stmt} {np np2 p pos rpos pos' pos0 : Pos} {fw : Addr → Option D} {g : S → Option Out}
theorem pms_try (hN : X.N.Nodup) (G : DefW X.prog X.w X.K X.mg X.base l wx fw) (hr : RoomH k X.A) (tk : L2N.Takes X Wout) (hc : Names X tx c) (hcl : ∀ C d, fw C = some d → PySem.W.exmOne X.K (.ref C) c = some true)
    (hb : ∀ (W : WX) (pn : List (Addr × Obj)) (xe : Value → Shared → Prop), L2N.Takes (X.tr pn xe) W → PassesOwn (model X.prog X.w) X.A X.env xe → PMSs (X.tr pn xe) W body g)
    (hlk : l ≤ k := by decide) (hi : X.N[i]? = some n := by rfl) (hs : X.stack = X.env :: X.outer := by rfl) (hf : X.env.frame = some X.env.locals := by rfl) (hln : X.env.kindOf n = some .local := by rfl) (hg : Gl X wx := by rfl)
    (hdb : (wx == ("__debug__" : Str)) = false := by decide) (hd : (n == ("__debug__" : Str)) = false := by decide) (hcd : (n == ("__classdict__" : Str)) = false := by decide)
    (he : starEach [.Name n np2] X.env = (false, eval (.Name n np2) X.env) :: starEach [] X.env := by rfl) (hpl : (backTo pos (starEach [] X.env)).any (·.1) = false := by rfl) :
    PMS X Wout (.Try body [.ExceptHandler (some (.Name tx np)) (some n) [.Return (some (.Call (.Name wx p) [.Name n np2] [] pos)) rpos] pos'] [] [] pos0) (tryO i fw g) := by
  refine PS.mono (L2N.ps_try_as (tb := fun W => tMS X.w X.K W g) (ts := tsW X.w X.K i fw) hs hf hN hi hln hc tk hb fun a oe cls d pn hz hfl => ?_) fun Dn σ H => ?_
  · unfold tsW
    cases cls with
    | ref C =>
      cases d with
      | none => exact pss_one (ps_ret (pe_callW G hr hlk hz hfl hi (Or.inl hln) hg hdb hd hcd he hpl))
      | some _ => exact ⟨fun _ _ _ _ _ _ h => h.elim⟩
    | _ => exact ⟨fun _ _ _ _ _ _ h => h.elim⟩
  · rintro ⟨Z, F0, F, δ, o, st, hg, q⟩
    unfold tryO at hg
    cases e1 : g δ with
    | none => rw [e1] at hg; cases hg
    | some o1 =>
      rw [e1] at hg
      refine ⟨Z, F0, F, δ, o1, st, e1, ?_⟩
      cases o1 with
      | er C δ' =>
        dsimp only at hg
        split at hg
        · rename_i hl
          cases e2 : fw C with
          | none => rw [e2] at hg; cases hg
          | some d =>
            rw [e2] at hg; cases hg
            intro σ' F' H' ex st'
            refine ⟨true, hcl C d e2, fun _ a ha => ?_, fun z => nomatch z⟩
            show tRet (tW X.w X.K i a (fw C)) _ _ _
            exact ⟨F', d, List.getElem?_set_self (by rw [← st'.len]; exact hl), e2, st'.ef, fun v F2 H2 gw r => q v σ' F2 H2 (ex.trans gw.f) (st'.grow gw) r⟩
        · cases hg
      | nx δ' => cases hg; exact q
      | rt d δ' => cases hg; exact q
      | bk δ' => cases hg; exact q
      | ct δ' => cases hg; exact q
end
end Pf

set_option Elab.async false
set_option linter.all false
set_option maxRecDepth 100000
set_option maxHeartbeats 4000000
namespace Pf
open PySem PySem.Spec PyProof.Rows L2 L2H

/-! ### list.count, list.index -/
section
variable {X : Cx}
def rCntD (K : PySem.W.Frag) : V → List V → Hp → VK → Prop := fun x xs H Q => ∃ (a : Addr) (y : V) (d : PyData) (ds : List PyData), x = V.ref a ∧ xs = [y] ∧ Dp K H (V.ref a) (.list ds) ∧ Dp K H y d ∧ SeqAt.shaped (.list ds) = true ∧ SeqAt.shaped d = true ∧
  Q (.int ((ds.countP fun z => PyData.eqv z d : Nat) : Int)) H
theorem mt_cntD (hu : X.A.units + 65 < cLine) : MtR X "list.count" (rCntD X.K) := by
  intro pins s σ H x xs v us Q I rx rxs h
  obtain ⟨a, y, d, ds, rfl, rfl, hl, hy, sl, sd, q⟩ := h
  cases rx
  obtain ⟨uy, rfl, ry⟩ := rxs.one
  obtain ⟨bs, r1⟩ := Dp.reads I d y uy hy ry
  have hxs : PyData.canLayAll0 ds = true := SeqAt.canLay_of_shaped sl
  have hroom : X.A.units + 1 + min (PyData.depthAll ds) d.depth < cLine := room_in_shaped sd hu
  cases hl with
  | lst hs ha =>
    obtain ⟨its, rv, ⟨⟨cls, dd, data, sls⟩, n, ho, hc, hdn, hdt⟩, hlen⟩ := I.list hs
    simp only at hc hdt
    subst hc hdt
    obtain ⟨as, h4⟩ := Dp.readsAll I ds _ its ha rv
    have hmap : its.map (SeqAt.readOf s.heap) = ds := SeqAt.readsAll_map ds its as hxs h4
    refine call_meets PySem.F.slot_list_count ⟨_, ho, rfl⟩ PySem.F.entry_list_count (PySem.F.args_list_count_2 _ _)
      (SeqAt.list_countAt a its.toArray n dd sls uy (fun u => PyData.eqv (SeqAt.readOf s.heap u) d)) ⟨ho, SeqAt.items_eqAt (vs := its.toArray) (show ReadsAll s.heap its.toArray.toList ds as from h4) r1 hxs (SeqAt.canLay_of_shaped sd) hroom, ?_⟩
    refine ⟨.int ((ds.countP fun z => PyData.eqv z d : Nat) : Int), H, I.tok _, ⟨s.toks, ?_⟩, q⟩
    have ec : its.toArray.toList.countP (fun u => PyData.eqv (SeqAt.readOf s.heap u) d) = ds.countP fun z => PyData.eqv z d := by
      rw [← hmap, List.countP_map]; rfl
    show Value.int ((its.toArray.toList.countP (fun u => PyData.eqv (SeqAt.readOf s.heap u) d) : Nat) : Int) s.toks = _
    rw [ec]
/-- methods of lists by data -/
def MlD (w : World) (K : PySem.W.Frag) (r : V → List V → Hp → VK → Prop) (op : D → D → Option D) : Prop := ∀ (F H : Hp) (x v : V) (l y d : D) (Q : VK), Ex F H → Rp w K F x l → Rp w K F v y → op l y = some d →
  (∀ v F' H', Gw F H F' H' → Rp w K F' v d → Q v H') → r x [v] H Q
def lstOnly (op : D → D → Option D) : D → D → Option D := fun a b => match a with
  | .list z => op (.list z) b
  | _ => none
variable {o e : Expr} {go ge : S → Option D} {id : String} {name : Str} {apos pos : Pos} {r : V → List V → Hp → VK → Prop} {op : D → D → Option D}
theorem px_l1 (slot : Slot "list" name id) (ty : typeOf (.builtin id) = pure (.type "method_descriptor")) (rule : MtR X id r) (hd : MlD X.w X.K r op) (ho : PX X o go) (he : PX X e ge)
    (hbase : attributeBase o name X.env (eval o X.env) = eval o X.env := by rfl)
    (hfew : ((backTo pos (starEach [e] X.env)).all (fun x => !x.1) && (backToKw pos (keywordEach [] X.env)).all (fun x => x.1.isSome)
      && decide ([e].length + ([] : List Keyword).length + (if ([] : List Keyword).isEmpty then 0 else 1) < 30)) = true := by rfl)
    (hline : (apos.endLine == pos.line) = true := by rfl) (hs : starEach [e] X.env = (false, eval e X.env) :: starEach [] X.env := by rfl) :
    PX X (.Call (.Attribute o name apos) [e] [] pos) (p2 (lstOnly op) go ge) :=
  PE.mono (pe_bm PySem.F.plainAttrs_list slot ty rule ho (pa_cons he pa_nil (hs := hs)) hbase hfew hline hs rfl) fun σ H Q => by
  rintro ⟨Z, F0, F, δ, d, δ', st, hf, q⟩
  obtain ⟨hf, rfl⟩ := pur_some hf
  unfold p2 at hf
  cases h1 : go δ' with
  | none => rw [h1] at hf; cases hf
  | some x =>
    rw [h1, Option.bind_some] at hf
    cases h2 : ge δ' with
    | none => rw [h2] at hf; cases hf
    | some y =>
      rw [h2, Option.bind_some] at hf
      refine ⟨Z, F0, F, δ', x, δ', st, pur_of h1, fun v1 F1 H1 e1 st1 r1 => ?_⟩
      cases x with
      | list l =>
        refine ⟨?_, Z, F0, F1, δ', y, δ', st1, pur_of h2, fun v2 F2 H2 e2 st2 r2 => hd F2 H2 v1 v2 (.list l) y d Q st2.ef (r1.mono e2) r2 hf fun v F' H' gw r => q v F' H' ((e1.trans e2).trans gw.f) (st2.grow gw) r⟩
        cases r1 with
        | lst a b => exact tyV_lst (st1.ef _ _ a)
      | _ => cases hf
def cntD : D → D → Option D := fun a b => match a with
  | .list l => if SeqAt.shaped (.list l) && SeqAt.shaped b then some (.int ((l.countP fun z => PyData.eqv z b : Nat) : Int)) else none
  | _ => none
theorem md_cnt {w : World} {K : PySem.W.Frag} : MlD w K (rCntD K) cntD := by
  intro F H x v l y d Q ex rx rv ho q
  unfold cntD at ho
  split at ho
  · split at ho
    · rename_i hs
      rw [Bool.and_eq_true] at hs
      cases ho
      cases rx with
      | lst a b => exact ⟨_, _, y, _, rfl, rfl, dp_mono ex (Rp.dp (.lst a b) (SeqAt.canLay_of_shaped hs.1)), dp_mono ex (rv.dp (SeqAt.canLay_of_shaped hs.2)), hs.1, hs.2, q _ F H (Gw.refl ex) (.int _)⟩
    · cases ho
  · cases ho
theorem px_count (hu : X.A.units + 65 < cLine) (ho : PX X o go) (he : PX X e ge) (hbase : attributeBase o "count" X.env (eval o X.env) = eval o X.env := by rfl)
    (hfew : ((backTo pos (starEach [e] X.env)).all (fun x => !x.1) && (backToKw pos (keywordEach [] X.env)).all (fun x => x.1.isSome)
      && decide ([e].length + ([] : List Keyword).length + (if ([] : List Keyword).isEmpty then 0 else 1) < 30)) = true := by rfl)
    (hline : (apos.endLine == pos.line) = true := by rfl) (hs : starEach [e] X.env = (false, eval e X.env) :: starEach [] X.env := by rfl) :
    PX X (.Call (.Attribute o "count" apos) [e] [] pos) (p2 (lstOnly cntD) go ge) := px_l1 PySem.F.slot_list_count PySem.F.type_list_count (mt_cntD hu) md_cnt ho he hbase hfew hline hs
def idxD : D → D → Option D := fun a b => match a with
  | .list l => if SeqAt.shaped (.list l) && SeqAt.shaped b then match l.findIdx? (fun z => PyData.eqv z b) with
      | some j => some (.int (j : Nat))
      | none => none
    else none
  | _ => none
theorem md_idx {w : World} {K : PySem.W.Frag} : MlD w K (rIndexD K) idxD := by
  intro F H x v l y d Q ex rx rv ho q
  unfold idxD at ho
  split at ho
  · rename_i l
    split at ho
    · rename_i hs
      rw [Bool.and_eq_true] at hs
      split at ho
      · rename_i j ej
        cases ho
        cases rx with
        | lst a b =>
          rw [List.findIdx?_eq_some_iff_getElem] at ej
          obtain ⟨hj, e1, e2⟩ := ej
          refine ⟨_, _, y, _, j, l[j], rfl, rfl, dp_mono ex (Rp.dp (.lst a b) (SeqAt.canLay_of_shaped hs.1)), dp_mono ex (rv.dp (SeqAt.canLay_of_shaped hs.2)), hs.1, hs.2, List.getElem?_eq_getElem hj, e1, fun m z' hm hz => ?_, q _ F H (Gw.refl ex) (.int _)⟩
          have := e2 m hm
          obtain ⟨hm', e3⟩ := List.getElem?_eq_some_iff.mp hz
          rw [← e3]
          simpa using this
      · cases ho
    · cases ho
  · cases ho
theorem px_index (hu : X.A.units + 65 < cLine) (ho : PX X o go) (he : PX X e ge) (hbase : attributeBase o "index" X.env (eval o X.env) = eval o X.env := by rfl)
    (hfew : ((backTo pos (starEach [e] X.env)).all (fun x => !x.1) && (backToKw pos (keywordEach [] X.env)).all (fun x => x.1.isSome)
      && decide ([e].length + ([] : List Keyword).length + (if ([] : List Keyword).isEmpty then 0 else 1) < 30)) = true := by rfl)
    (hline : (apos.endLine == pos.line) = true := by rfl) (hs : starEach [e] X.env = (false, eval e X.env) :: starEach [] X.env := by rfl) :
    PX X (.Call (.Attribute o "index" apos) [e] [] pos) (p2 (lstOnly idxD) go ge) := px_l1 PySem.F.slot_list_index PySem.F.type_list_index (mt_indexD hu) md_idx ho he hbase hfew hline hs
end
end Pf

set_option Elab.async false
set_option linter.all false
set_option maxRecDepth 100000
set_option maxHeartbeats 4000000
namespace Pf
open PySem PySem.Spec PyProof.Rows L2 L2H

/-! ### x += e -/
section
variable {X : Cx}
def rIAdd : R2 := orR (rI0 fun i j => .int (i + j)) rAddS
theorem ip_addA : PIp X .Add rIAdd := opR_or iop_add iop_add_str
def iaddD : D → D → Option D
  | .int i, .int j => some (.int (i + j))
  | .str i, .str j => if i.length + j.length ≤ sizeLine then some (.str (i ++ j)) else none
  | _, _ => none
theorem od_iadd {w : World} {K : PySem.W.Frag} : OpD w K rIAdd iaddD := by
  intro F H x y a b d Q ex ra rb ho q
  unfold iaddD at ho
  split at ho
  · cases ho; cases ra; cases rb
    exact .inl ⟨_, _, rfl, rfl, q _ F H (Gw.refl ex) (.int _)⟩
  · split at ho
    · rename_i hl
      cases ho; cases ra; cases rb
      exact .inr ⟨_, _, rfl, rfl, hl, q _ F H (Gw.refl ex) (.str _)⟩
    · cases ho
  · cases ho
def isubD : D → D → Option D
  | .int i, .int j => some (.int (i - j))
  | _, _ => none
theorem od_isub {w : World} {K : PySem.W.Frag} : OpD w K (ipI fun i j => i - j) isubD := by
  intro F H x y a b d Q ex ra rb ho q
  unfold isubD at ho
  split at ho
  · cases ho; cases ra; cases rb
    exact ⟨_, _, rfl, rfl, q _ F H (Gw.refl ex) (.int _)⟩
  · cases ho
end
/-! ### x = [..], pure -/
section
variable {X : Cx} {W : WX} {tg it elt : Expr} {ifs : List Expr} {scope : Scope} {pos : Pos} {t : D → S → Option S} {fi : S → Option (List D)} {c : S → Option Bool} {e : S → Option D} {i : Nat} {y : Str} {py spos : Pos}
theorem pms_setLcX (own : List (Str × Nat)) (hc : X.calm = true) (hN : X.N.Nodup) (hi : PXIL X tg it fi) (ok : BlkOk X.N X.env.scope scope own) (k : Keeps t (own.map (·.2)))
    (hg : ∀ (s : Shared) (H : Hp) (C : Addr) (cl : List (Str × Addr)) (fp : List Addr), PCG (X.blk s H scope (compEnvC scope cl C X.env) fp) tg t (own.map (·.2)))
    (ht : ∀ (s : Shared) (H : Hp) (C : Addr) (cl : List (Str × Addr)) (fp : List Addr), PTs (X.blk s H scope (compEnvC scope cl C X.env) fp) ifs (tMT X.w X.K (pur c)))
    (he : ∀ (s : Shared) (H : Hp) (C : Addr) (cl : List (Str × Addr)) (fp : List Addr), PX (X.blk s H scope (compEnvC scope cl C X.env) fp) elt e)
    (hsw : swapsWith (.ListComp elt [⟨tg, it, ifs, 0⟩] scope pos) (some (.Name y py)) spos.line X.env = pure true)
    (hy : X.N[i]? = some y := by rfl) (hyl : X.env.scope.names.lookup y = some .local := by rfl) (hs : ∀ x, foldedSetIterable it X.env x = pure x := by intro _; rfl) :
    PMS X W (.Assign [.Name y py] (.ListComp elt [⟨tg, it, ifs, 0⟩] scope pos) spos) (asgO (pur (pLc fi t c e (own.map (·.2)))) (putS i)) :=
  (pms_setLc own hc hN hi ok hg ht he hsw hy hyl hs).cast (by rw [mLcV_pur k])
end
/-! ### a def of CX0's kind as one that may raise -/
theorem DefP.toR {P : Program} {w : World} {K : PySem.W.Frag} {mg : Str → Option Value} {base : Heap} {k : Nat} {x : Str} {fn : List D → Option D} (F : DefP P w K mg base k x fn) : DefR P w K mg base k x (fun ds => (fn ds).map Except.ok) := by
  obtain ⟨f, fd, ps, G, r⟩ := F.ex
  refine ⟨f, fd, ps, ⟨fun vs H Q E h => ?_, fun A outer s H args us vs Q E hr e0 hb hv h => ?_⟩, r⟩
  · obtain ⟨F1, ds, d, ex, ra, e, q⟩ := h
    dsimp only at e
    cases e1 : fn ds with
    | none => rw [e1] at e; cases e
    | some d1 => exact G.len vs H (fun _ _ => True) E ⟨F1, ds, d1, ex, ra, e1, fun _ _ _ _ _ => trivial⟩
  · obtain ⟨F1, ds, d, ex, ra, e, q⟩ := h
    dsimp only at e
    cases e1 : fn ds with
    | none => rw [e1] at e; cases e
    | some d1 =>
      rw [e1] at e; cases e
      refine codeAny_mono (G.run A outer s H args us vs Q E hr e0 hb hv ⟨F1, ds, d1, ex, ra, e1, q⟩) fun r s' hq => ?_
      cases r with
      | error _ => exact hq.elim
      | ok fl => cases fl <;> exact hq
/-! ### return [f, ..][i](..) -/
section
variable {X : Cx} {W : WX} {k l : Nat} {e ix : Expr} {es fs : List Expr} {p1 p2 pos spos : Pos} {gl : S → Option (List D)} {gi : S → Option D}
/-- the names es hold defs that compute frs -/
def SelA (X : Cx) (k : Nat) (es : List Expr) (frs : List (List D → Option (Except Addr D))) : Prop := ∃ as : List Addr, as.length = frs.length ∧ PA X es (fun _ H Q => Q (as.map V.ref) H) ∧ ∀ (i : Nat) (a : Addr) (fr : List D → Option (Except Addr D)), as[i]? = some a → frs[i]? = some fr →
  ∃ fd ps, FnOk X.prog X.w X.K X.mg X.base (L2N.CX X.prog X.w) k a fd ps (spR X.w X.K fr) ∧ PySem.W.keepIn X.K (.ref a) = true ∧ Binds X.K fd ps []
theorem sel_nil : SelA X k [] [] := ⟨[], rfl, PA.mono pa_nil fun _ _ _ h => h, fun i a fr h => by simp at h⟩
theorem sel_cons {x : Str} {fr : List D → Option (Except Addr D)} {frs : List (List D → Option (Except Addr D))} {p : Pos} (G : DefR X.prog X.w X.K X.mg X.base l x fr) (h : SelA X k es frs) (hlk : l ≤ k := by decide) (hg : Gl X x := by rfl) (hdb : (x == ("__debug__" : Str)) = false := by decide)
    (hs : starEach (.Name x p :: es) X.env = (false, eval (.Name x p) X.env) :: starEach es X.env := by rfl) : SelA X k (.Name x p :: es) (fr :: frs) := by
  obtain ⟨as, hl, ha, hq⟩ := h
  obtain ⟨f, fd, ps, G, hm, hk, hb⟩ := G.ex
  refine ⟨f :: as, by simp [hl], PA.mono (pa_cons (pe_glob (v := .ref f) hg hm rfl hdb) ha (hs := hs)) fun _ _ _ h => h, fun i a fr' h1 h2 => ?_⟩
  cases i with
  | zero => cases h1; cases h2; exact ⟨fd, ps, G.mono hlk, hk, hb⟩
  | succ i => exact hq i a fr' (by simpa using h1) (by simpa using h2)
def selO (frs : List (List D → Option (Except Addr D))) (gi : S → Option D) (gl : S → Option (List D)) : S → Option Out := fun δ => (gi δ).bind fun k => match k with
  | .int k => (L2.atI frs k).bind fun fr => (gl δ).bind fun ds => match fr ds with
    | some (.ok d) => some (.rt d δ)
    | some (.error c) => some (.er c δ)
    | none => none
  | _ => none
theorem atI_some {α β : Type} {l : List α} {m : List β} {k : Int} {a : α} (h : L2.atI l k = some a) (hl : m.length = l.length) : ∃ (j : Nat) (b : β), l[j]? = some a ∧ m[j]? = some b ∧ L2.atI m k = some b := by
  unfold L2.atI at h ⊢
  rw [hl]
  cases e : ixN l.length k with
  | none => rw [e] at h; cases h
  | some j =>
    rw [e] at h
    have hj : j < l.length := (List.getElem?_eq_some_iff.mp h).1
    exact ⟨j, m[j]'(by omega), h, List.getElem?_eq_getElem (by omega), List.getElem?_eq_getElem (by omega)⟩
theorem pms_retSel {frs : List (List D → Option (Except Addr D))} (G : SelA X k fs frs) (hr : Room k X.A) (tk : L2N.Takes X W) (hi : PX X ix gi) (ha : PXA X (e :: es) gl) (hfl : frs.length ≤ 1000 := by simp)
    (hs : PlainIx ix := by exact fun _ _ => rfl) (he : starEach (e :: es) X.env = (false, eval e X.env) :: starEach es X.env := by rfl) (hpl : (backTo pos (starEach es X.env)).any (·.1) = false := by rfl)
    (hev : eval (.Call (.Subscript (.List fs p1) ix p2) (e :: es) [] pos) X.env = (do callWith pos (← eval (.Subscript (.List fs p1) ix p2) X.env) [] (backTo pos (starEach (e :: es) X.env)) (backToKw pos (keywordEach [] X.env))) := by rfl) :
    PMS X W (.Return (some (.Call (.Subscript (.List fs p1) ix p2) (e :: es) [] pos)) spos) (selO frs gi gl) := by
  obtain ⟨as, hl, hA, hq⟩ := G
  have hfe := pe_ix (pos := p2) ix_list (pe_lst (pos := p1) hA) hi hs
  have hpe : PE X (.Call (.Subscript (.List fs p1) ix p2) (e :: es) [] pos) (fun σ H Q => tOp (rIxL X.K) (tLst (fun _ H Q => Q (as.map V.ref) H)) (tM X.w X.K (pur gi)) σ H fun v H1 => ∃ (i : Nat) (a : Addr) (fr : List D → Option (Except Addr D)), v = .ref a ∧ as[i]? = some a ∧ frs[i]? = some fr ∧ tMA X.w X.K (pur gl) σ H1 fun vs H2 => spR X.w X.K fr vs H2 Q (WE W σ)) := by
    refine ⟨fun pins s σ H Q I h => ?_⟩
    rw [hev]
    refine wpAny_bind (thn (hfe.run pins s σ H _ I h) fun u s1 ⟨v, H1, I1, r1, i, a, fr, ev, e1, e2, q1⟩ => ?_)
    subst ev
    cases r1
    obtain ⟨fd, ps, F, hk, hb⟩ := hq i a fr e1 e2
    refine PySem.W.callWith_K (h₀ := X.base) I.ok.mod.kin hk (thn (ha.run pos pins s1 σ H1 _ I1 q1) fun us s2 ⟨vs, H2, I2, r, q⟩ => ⟨I2.kIn, ?_⟩) he hpl
    exact run_fnS (E := WE W) F hr hb (L2N.passAt tk σ) I2 r q
  refine PS.mono (ps_ret hpe) fun Dn σ H => ?_
  rintro ⟨Z, F0, F, δ, o, st, hg, q⟩
  unfold selO at hg
  cases e1 : gi δ with
  | none => rw [e1] at hg; cases hg
  | some kd =>
    rw [e1, Option.bind_some] at hg
    cases kd with
    | int kk =>
      dsimp only at hg
      cases e2 : L2.atI frs kk with
      | none => rw [e2] at hg; cases hg
      | some fr =>
        rw [e2, Option.bind_some] at hg
        obtain ⟨j, a, f1, f2, f3⟩ := atI_some e2 hl
        refine ⟨by rw [List.length_map, hl, sizeLine_eq]; omega, fun p hp => ?_⟩
        refine ⟨upd Z p (.lst (as.map V.ref)), F0, F, δ, _, δ, st.alloc hp, pur_of e1, fun v F1 H1 x1 st1 r1 => ?_⟩
        cases r1
        have hpF : F0 p = none := (st.e0.trans st.ef).back hp
        refine ⟨p, as.map V.ref, kk, .ref a, rfl, rfl, SqL.of st1.at, by rw [atI_map, f3]; rfl, j, a, fr, rfl, f2, f1, ?_⟩
        have st2 : StR X.w X.K Z F0 δ σ F1 H1 := by
          refine ⟨st1.ef, st1.e0, (Ex.new (st.ez.back hp)).trans st1.ez, fun b b1 b2 => st1.fz b b1 ?_, st1.len, ?_⟩
          · by_cases c : b = p
            · rw [c, upd_same]; simp
            · rw [upd_ne c]; exact b2
          · obtain ⟨fp, h1, h2, h3⟩ := st1.sl
            refine ⟨fp, h1, fun i b hb => ?_, h3⟩
            obtain ⟨c1, c2, c3⟩ := h2 i b hb
            refine ⟨c1, ?_, c3⟩
            by_cases c : b = p
            · rw [c]; exact st.ez.back hp
            · rw [upd_ne c] at c2; exact c2
        cases e3 : gl δ with
        | none => rw [e3] at hg; cases hg
        | some ds =>
          rw [e3, Option.bind_some] at hg
          refine ⟨Z, F0, F1, δ, ds, δ, st2, pur_of e3, fun vs F2 H2 x2 st3 r2 => ?_⟩
          cases e4 : fr ds with
          | none => rw [e4] at hg; cases hg
          | some r =>
            rw [e4] at hg
            refine ⟨F2, ds, r, st3.ef, r2, e4, ?_⟩
            cases r with
            | ok d => cases hg; exact fun v F' H' gw rr => q v σ F' H' ((x1.trans x2).trans gw.f) (st3.grow gw) rr
            | error c => cases hg; exact fun F' H' gw => q σ F' H' ((x1.trans x2).trans gw.f) (st3.grow gw)
    | _ => cases hg
end
end Pf

set_option Elab.async false
set_option linter.all false
set_option maxRecDepth 100000
set_option maxHeartbeats 4000000
namespace Pf
open PySem PySem.Spec PyProof.Rows L2 L2H

theorem pwP {X : Cx} (h : X.xe = fun _ _ => False := by rfl) : PassesOwn (model X.prog X.w) X.A X.env X.xe := by
  rw [h]; exact PassesOwn.never
theorem tkP {X : Cx} : L2N.Takes X W0 := fun u s' x => by
  obtain ⟨a, B, sI, pins, σ, H, cls, d, rfl, I, nb, up, sky, na, os, ag, w⟩ := x
  exact w.elim
theorem pe_gx {X : Cx} {x : Str} {c : Addr} {pos : Pos} (hm : X.mg x = some (.ref c)) (hg : Gl X x := by rfl) (hd : (x == ("__debug__" : Str)) = false := by decide) : PE X (.Name x pos) (tC (.ref c)) := pe_glob (v := .ref c) hg hm rfl hd
theorem pe_tx {X : Cx} {x : Str} {T : String} {pos : Pos} (hm : X.mg x = none) (hv : bootBuiltins x = some (.type T)) (hg : Gl X x := by rfl) (hn : x ≠ "__name__" := by decide) (hd : (x == ("__debug__" : Str)) = false := by decide) : PE X (.Name x pos) (tC (.ty T)) := pe_bltn (v := .ty T) hg hm hv rfl hn hd
/-! ### a reading that holds where dom holds -/
open Classical in
noncomputable def whG (dom : Prop) (g : S → Option Out) : S → Option Out := fun δ => if dom then g δ else none
theorem whG_of {dom : Prop} {g : S → Option Out} (h : dom) : whG dom g = g := by
  funext δ
  unfold whG
  rw [if_pos h]
theorem whP {X : Cx} {W : WX} {st : List Stmt} {dom : Prop} {g : S → Option Out} (h : dom → PMSs X W st g) : PMSs X W st (whG dom g) := by
  by_cases c : dom
  · rw [whG_of c]; exact h c
  · refine ⟨fun pins s σ H Dn I q => ?_⟩
    obtain ⟨Z, F0, F, δ, o, st, hg, _⟩ := q
    unfold whG at hg
    rw [if_neg c] at hg
    cases hg
/-! ### the law -/
def spLw (K : PySem.W.Frag) (ok : List Int → Prop) : Sp := fun vs H Q _ => ∃ (a : Addr) (l : List Int), vs = [.ref a] ∧ ok l ∧ SqL K H a (l.map V.int) ∧ ∀ H', Q (.bl true) H'
theorem StR.initL {w : World} {K : PySem.W.Frag} {H : Hp} {N : List Str} {a : Addr} {l : List Int} (h : SqL K H a (l.map V.int)) : StR w K H H (Sl.fl l :: List.replicate (N.length - 1) .un) (L2.start N [.ref a]) H H := by
  refine ⟨Ex.refl H, Ex.refl H, Ex.refl H, fun _ z _ => z, ?_, fun _ => [], fun i s e => ?_, fun i p hp => by simp at hp, fun i j p hp => by simp at hp⟩
  · unfold L2.start
    simp
  · cases i with
    | zero => cases e; exact ⟨a, rfl, h⟩
    | succ i =>
      rw [List.getElem?_cons_succ, List.getElem?_replicate] at e
      split at e
      · cases e; trivial
      · cases e
theorem def_law {P : Program} {w : World} {K : PySem.W.Frag} {mg : Str → Option Value} {base : Heap} {x : Str} {st : Stmt} {N : List Str} {k : Nat} {g : S → Option Out} {ok : List Int → Prop} {f : Addr} {fd : FuncData} {kws : List (Str × V)} (F : FunD K x x (defArgs st) (defBody st) (defScope st) [] kws f fd) (S : FnScope N ["script"] (defScope st))
    (hb : ∀ (cdv : Value) (A : Around) (outer : List Env) (s : Shared) (H : Hp) (E : XK), Room k (A.deeper (PyProof.Rows.envOfC x (defScope st) s.heap.objs.size f cdv)) → PMSs (cxOf CX0 P w K mg base N x (defScope st) f cdv A outer s H E).nox W0 (defBody st) g)
    (hg : ∀ l, ok l → (g (Sl.fl l :: List.replicate (N.length - 1) .un)).bind outP = some (.bool true)) : FnOk P w K mg base CX0 (k + 1) f fd ["script"] (spLw K ok) := by
  refine F.ok S (fun vs H Q E h => ?_) (fun cdv A outer s H vs Q E hr h => ?_)
  · obtain ⟨a, l, rfl, _⟩ := h
    rfl
  · refine ⟨_, (hb cdv A outer s H E hr).nox, ?_⟩
    obtain ⟨a, l, rfl, hok, hS, q⟩ := h
    have ho := hg l hok
    cases eo : g (Sl.fl l :: List.replicate (N.length - 1) .un) with
    | none => rw [eo] at ho; cases ho
    | some oc =>
      rw [eo, Option.bind_some] at ho
      refine ⟨H, H, H, _, oc, StR.initL hS, eo, ?_⟩
      cases oc with
      | rt d' δ' =>
        cases ho
        intro v σ' F' H' _ st rr
        cases rr
        exact q H'
      | nx δ' => cases ho
      | _ => cases ho
end Pf

set_option Elab.async false
set_option linter.all false
set_option maxRecDepth 100000
set_option maxHeartbeats 4000000
namespace Pf
open PySem Builtin Builtin.Str PyProof.Rows

/-! ### texts as lists of signs -/
abbrev tx (l : List Nat) : Str := ⟨l.toArray⟩
theorem tx_len (l : List Nat) : (tx l).length = l.length := by simp [Str.length]
theorem tx_app (l m : List Nat) : tx l ++ tx m = tx (l ++ m) := by
  show Str.append _ _ = _
  simp [Str.append]
theorem tx_of (x : Str) : x = tx x.cps.toList := by simp
theorem extract_toList {α : Type} (a : Array α) (i j : Nat) : (a.extract i j).toList = (a.toList.take j).drop i := by
  rw [Array.toList_extract, List.extract_eq_drop_take]
  rw [List.drop_take]
theorem sub_tx (l : List Nat) (i j : Nat) : strSub (tx l) i j = tx ((l.take j).drop i) := by
  unfold strSub
  apply congrArg Str.mk
  apply Array.toList_inj.mp
  rw [extract_toList]
theorem at_iff (l m : List Nat) (i : Nat) : StrLaws.At (tx l) (tx m) (tx l).length i ↔ (l.drop i).take m.length = m ∧ i + m.length ≤ l.length := by
  unfold StrLaws.At subAt
  rw [tx_len, tx_len]
  constructor
  · rintro ⟨h1, h2⟩
    refine ⟨?_, h1⟩
    have h3 := congrArg Array.toList (eq_of_beq h2)
    rw [extract_toList] at h3
    simp only at h3
    rw [List.drop_take, Nat.add_sub_cancel_left] at h3
    exact h3
  · rintro ⟨h1, h2⟩
    refine ⟨h2, ?_⟩
    rw [beq_iff_eq]
    apply Array.toList_inj.mp
    rw [extract_toList]
    simp only
    rw [List.drop_take, Nat.add_sub_cancel_left]
    exact h1
theorem at_one (l : List Nat) (c i : Nat) : StrLaws.At (tx l) (tx [c]) (tx l).length i ↔ l[i]? = some c := by
  rw [at_iff]
  constructor
  · rintro ⟨h1, h2⟩
    simp only [List.length_cons, List.length_nil] at h1 h2
    have := congrArg (fun z : List Nat => z[0]?) h1
    simp only [List.getElem?_take, List.getElem?_drop] at this
    simpa using this
  · intro h
    have hi : i < l.length := (List.getElem?_eq_some_iff.mp h).1
    refine ⟨?_, by show i + 1 ≤ l.length; omega⟩
    rw [List.drop_eq_getElem_cons hi]
    have := (List.getElem?_eq_some_iff.mp h).2
    simp [this]
theorem contains_one (l : List Nat) (c : Nat) : Txt.contains (tx l) (tx [c]) = decide (c ∈ l) := by
  unfold Txt.contains
  rcases StrLaws.occ_head (tx l) (tx [c]) 1 (Nat.le_refl 1) with ⟨h0, hn⟩ | ⟨i, r, h0, hi, _⟩
  · rw [h0]
    symm
    simp only [List.isEmpty_nil, Bool.not_true, decide_eq_false_iff_not]
    intro hc
    obtain ⟨i, hi⟩ := List.getElem?_of_mem hc
    exact hn i ((at_one l c i).mpr hi)
  · rw [h0]
    symm
    simp only [List.isEmpty_cons, Bool.not_false, decide_eq_true_eq]
    exact List.mem_of_getElem? ((at_one l c i).mp hi)
/-! ### split -/
def joinL (c : Nat) : List (List Nat) → List Nat
  | [] => []
  | [x] => x
  | x :: y :: r => x ++ c :: joinL c (y :: r)
theorem joinL_uniq (c : Nat) : ∀ (P Q : List (List Nat)), P ≠ [] → Q ≠ [] → (∀ x ∈ P, c ∉ x) → (∀ x ∈ Q, c ∉ x) → joinL c P = joinL c Q → P = Q
  | [], _, h, _, _, _, _ => absurd rfl h
  | _, [], _, h, _, _, _ => absurd rfl h
  | [x], [y], _, _, _, _, e => by simpa [joinL] using e
  | [x], y :: z :: r, _, _, hp, _, e => by
    have : c ∈ joinL c (y :: z :: r) := by simp [joinL]
    rw [← e] at this
    exact absurd this (hp x (by simp))
  | x :: z :: r, [y], _, _, _, hq, e => by
    have : c ∈ joinL c (x :: z :: r) := by simp [joinL]
    rw [e] at this
    exact absurd this (hq y (by simp))
  | x :: x2 :: P, y :: y2 :: Q, _, _, hp, hq, e => by
    simp only [joinL] at e
    have key : ∀ (a b s t : List Nat), c ∉ a → c ∉ b → a ++ c :: s = b ++ c :: t → a = b ∧ s = t := by
      intro a
      induction a with
      | nil =>
        intro b s t _ hb e
        cases b with
        | nil => simpa using e
        | cons z b => simp only [List.nil_append, List.cons_append, List.cons.injEq] at e; exact absurd (by rw [e.1]; simp) hb
      | cons z a ih =>
        intro b s t ha hb e
        cases b with
        | nil => simp only [List.nil_append, List.cons_append, List.cons.injEq] at e; exact absurd (by rw [← e.1]; simp) ha
        | cons z' b =>
          simp only [List.cons_append, List.cons.injEq] at e
          obtain ⟨e1, e2⟩ := ih b s t (fun h => ha (by simp [h])) (fun h => hb (by simp [h])) e.2
          exact ⟨by rw [e.1, e1], e2⟩
    obtain ⟨e1, e2⟩ := key x y _ _ (hp x (by simp)) (hq y (by simp)) e
    have := joinL_uniq c (x2 :: P) (y2 :: Q) (by simp) (by simp) (fun z hz => hp z (by simp [hz])) (fun z hz => hq z (by simp [hz])) e2
    rw [e1, this]
theorem joinS (c : Nat) : ∀ P : List (List Nat), Str.join (tx [c]) (P.map tx) = tx (joinL c P)
  | [] => rfl
  | [x] => rfl
  | x :: y :: r => by
    show tx x ++ tx [c] ++ Str.join (tx [c]) ((y :: r).map tx) = _
    rw [joinS c (y :: r), tx_app, tx_app]
    simp [joinL]
theorem count_join (c : Nat) : ∀ P : List (List Nat), P ≠ [] → (joinL c P).count c + 1 = P.length + (P.map fun x => x.count c).sum
  | [], h => absurd rfl h
  | [x], _ => by simp [joinL]; omega
  | x :: y :: r, _ => by
    have := count_join c (y :: r) (by simp)
    simp only [joinL, List.count_append, List.count_cons, beq_self_eq_true, if_true, List.map_cons, List.sum_cons, List.length_cons] at this ⊢
    omega
theorem sum_zero : ∀ (P : List (List Nat)) (c : Nat), (P.map fun x => x.count c).sum = 0 → ∀ x ∈ P, c ∉ x
  | [], _, _, x, hx => by simp at hx
  | y :: P, c, h, x, hx => by
    simp only [List.map_cons, List.sum_cons] at h
    rcases List.mem_cons.mp hx with rfl | hx
    · exact List.count_eq_zero.mp (by omega)
    · exact sum_zero P c (by omega) x hx
theorem cnt_eq (c : Nat) : ∀ l : List Nat, PyProof.Rows.cnt c l = (l.count c : Int)
  | [] => rfl
  | n :: l => by
    rw [PyProof.Rows.cnt_cons, cnt_eq c l, List.count_cons]
    by_cases h : n = c
    · simp [h]; omega
    · simp [h]
theorem split_uniq (c : Nat) (Q : List (List Nat)) (hQ : Q ≠ []) (hq : ∀ x ∈ Q, c ∉ x) : Txt.split (tx (joinL c Q)) (tx [c]) = Q.map tx := by
  have e1 := StrLaws.join_split (tx (joinL c Q)) (tx [c])
  have e2 := split_len (tx (joinL c Q)) c
  have eP : (Txt.split (tx (joinL c Q)) (tx [c])) = ((Txt.split (tx (joinL c Q)) (tx [c])).map fun x => x.cps.toList).map tx := by
    rw [List.map_map]
    symm
    exact (List.map_congr_left fun x _ => (tx_of x).symm).trans (List.map_id _)
  have hne : Txt.split (tx (joinL c Q)) (tx [c]) ≠ [] := fun z => by
    have := split_pos (tx (joinL c Q)) (tx [c])
    rw [z] at this
    simp at this
  rw [eP]
  congr 1
  rw [eP, joinS] at e1
  have e3 : joinL c ((Txt.split (tx (joinL c Q)) (tx [c])).map fun x => x.cps.toList) = joinL c Q := by
    have := congrArg (fun z : Str => z.cps.toList) e1
    simpa using this
  refine joinL_uniq c _ Q (by simpa using hne) hQ (sum_zero _ c ?_) hq e3
  have e4 := count_join c ((Txt.split (tx (joinL c Q)) (tx [c])).map fun x => x.cps.toList) (by simpa using hne)
  rw [e3, List.length_map] at e4
  have e5 : ((Txt.split (tx (joinL c Q)) (tx [c])).length : Int) = 1 + ((joinL c Q).count c : Int) := by
    have e2' : ((Txt.split (tx (joinL c Q)) (tx [c])).length : Int) = _ := e2
    rw [e2', cnt_eq]
  omega
/-! ### partition at a sign that comes once -/
theorem part_at (A B : List Nat) (h : 124 ∉ A) : Txt.partition (tx (A ++ 32 :: 124 :: 32 :: B)) (tx [32, 124, 32]) = (tx A, tx [32, 124, 32], tx B) := by
  have hat : StrLaws.At (tx (A ++ 32 :: 124 :: 32 :: B)) (tx [32, 124, 32]) (tx (A ++ 32 :: 124 :: 32 :: B)).length A.length := (at_iff _ _ _).mpr ⟨by simp, by simp⟩
  have hmin : ∀ i, StrLaws.At (tx (A ++ 32 :: 124 :: 32 :: B)) (tx [32, 124, 32]) (tx (A ++ 32 :: 124 :: 32 :: B)).length i → A.length ≤ i := fun i hi => by
    obtain ⟨h1, h2⟩ := (at_iff _ _ _).mp hi
    have := congrArg (fun z : List Nat => z[1]?) h1
    simp only [List.getElem?_take, List.getElem?_drop, List.length_cons, List.length_nil] at this
    have h3 : (A ++ 32 :: 124 :: 32 :: B)[i + 1]? = some 124 := by simpa using this
    by_cases c : i + 1 < A.length
    · rw [List.getElem?_append_left c] at h3
      exact absurd (List.mem_of_getElem? h3) h
    · by_cases c2 : i + 1 = A.length
      · rw [c2, List.getElem?_append_right (Nat.le_refl _), Nat.sub_self] at h3
        simp at h3
      · omega
  unfold Txt.partition
  rcases StrLaws.occ_head (tx (A ++ 32 :: 124 :: 32 :: B)) (tx [32, 124, 32]) 1 (Nat.le_refl 1) with ⟨h0, hn⟩ | ⟨i, r, h0, hi, hn⟩
  · exact absurd hat (hn _)
  · rw [h0]
    have e : i = A.length := by
      have := hmin i hi
      by_cases c : A.length < i
      · exact absurd hat (hn _ c)
      · omega
    subst e
    simp only [sub_tx, tx_len]
    refine Prod.ext (congrArg tx ?_) (Prod.ext rfl (congrArg tx ?_))
    · simp
    · rw [List.take_of_length_le (by simp), List.drop_append]
      simp
theorem part_none (A : List Nat) (h : 124 ∉ A) : Txt.partition (tx A) (tx [32, 124, 32]) = (tx A, Str.empty, Str.empty) := by
  unfold Txt.partition
  rcases StrLaws.occ_head (tx A) (tx [32, 124, 32]) 1 (Nat.le_refl 1) with ⟨h0, hn⟩ | ⟨i, r, h0, hi, hn⟩
  · rw [h0]
  · obtain ⟨h1, h2⟩ := (at_iff _ _ _).mp hi
    have := congrArg (fun z : List Nat => z[1]?) h1
    simp only [List.getElem?_take, List.getElem?_drop, List.length_cons, List.length_nil] at this
    have h3 : A[i + 1]? = some 124 := by simpa using this
    exact absurd (List.mem_of_getElem? h3) h
end Pf

set_option Elab.async false
set_option linter.all false
set_option maxRecDepth 100000
set_option maxHeartbeats 4000000
namespace Pf
open PySem PySem.Spec PyProof.Rows L2 L2H

/-! ### what a def with an owned parameter does, whatever the address -/
open Classical in
noncomputable def fnO (n : Nat) (N : List Str) (g : S → Option Out) : List Sl → Ow → Option (Except Addr D × Ow) := fun ss o =>
  if h : ss.length = n ∧ ∃ r, ∀ p, (g (initO N 1 p ss o)).bind (outO 1 p) = some r then some (Classical.choose h.2) else none
theorem fnO_hfn {n : Nat} {N : List Str} {g : S → Option Out} : ∀ ss o r, fnO n N g ss o = some r → ss.length = n ∧ ∀ p, (g (initO N 1 p ss o)).bind (outO 1 p) = some r := fun ss o r h => by
  unfold fnO at h
  split at h
  · rename_i hh
    cases h
    exact ⟨hh.1, Classical.choose_spec hh.2⟩
  · cases h
theorem fnO_eq {n : Nat} {N : List Str} {g : S → Option Out} {ss : List Sl} {o : Ow} {r : Except Addr D × Ow} (hn : ss.length = n) (h : ∀ p, (g (initO N 1 p ss o)).bind (outO 1 p) = some r) : fnO n N g ss o = some r := by
  unfold fnO
  rw [dif_pos ⟨hn, r, h⟩]
  have := Classical.choose_spec (⟨r, h⟩ : ∃ r, ∀ p, (g (initO N 1 p ss o)).bind (outO 1 p) = some r) 0
  rw [h 0] at this
  exact this.symm
open Classical in
noncomputable def fnW (dom : Addr → Prop) (N : List Str) (g : Addr → Addr → S → Option Out) : Addr → Option D := fun C =>
  if h : dom C ∧ ∃ d, ∀ a, (g a C (initW N a)).bind outP = some d then some (Classical.choose h.2) else none
theorem fnW_hfn {dom : Addr → Prop} {N : List Str} {g : Addr → Addr → S → Option Out} : ∀ C d, fnW dom N g C = some d → ∀ a, (g a C (initW N a)).bind outP = some d := fun C d h => by
  unfold fnW at h
  split at h
  · rename_i hh
    cases h
    exact Classical.choose_spec hh.2
  · cases h
theorem fnW_dom {dom : Addr → Prop} {N : List Str} {g : Addr → Addr → S → Option Out} : ∀ C d, fnW dom N g C = some d → dom C := fun C d h => by
  unfold fnW at h
  split at h
  · rename_i hh; exact hh.1
  · cases h
theorem fnW_eq {dom : Addr → Prop} {N : List Str} {g : Addr → Addr → S → Option Out} {C : Addr} {d : D} (hd : dom C) (h : ∀ a, (g a C (initW N a)).bind outP = some d) : fnW dom N g C = some d := by
  unfold fnW
  rw [dif_pos ⟨hd, d, h⟩]
  have := Classical.choose_spec (⟨d, h⟩ : ∃ d, ∀ a, (g a C (initW N a)).bind outP = some d) 0
  rw [h 0] at this
  exact this.symm

/-! ### loops -/
theorem for_uni {β : Type} {t : D → S → Option S} {g : S → Option Out} (F : Addr → β → S) (Good : Nat → β → Prop) : ∀ (ds : List D) (k : Nat) (b : β),
    (∀ i d b, ds[i]? = some d → Good (k + i) b → ∃ b', Good (k + i + 1) b' ∧ ∀ p, ∃ δ1, t d (F p b) = some δ1 ∧ (g δ1 = some (.nx (F p b')) ∨ g δ1 = some (.ct (F p b')))) → Good k b →
    ∃ b', Good (k + ds.length) b' ∧ ∀ p, forD t g ds (F p b) = some (.nx (F p b'))
  | [], k, b, _, h0 => ⟨b, h0, fun p => rfl⟩
  | d :: ds, k, b, h, h0 => by
    obtain ⟨b1, g1, e1⟩ := h 0 d b rfl h0
    obtain ⟨b2, g2, e2⟩ := for_uni F Good ds (k + 1) b1 (fun i d' b' hi hg => by
      obtain ⟨b3, g3, e3⟩ := h (i + 1) d' b' (by simpa using hi) (by rw [show k + (i + 1) = k + 1 + i by omega]; exact hg)
      exact ⟨b3, by rw [show k + 1 + i + 1 = k + (i + 1) + 1 by omega]; exact g3, e3⟩) g1
    refine ⟨b2, by rw [List.length_cons, show k + (ds.length + 1) = k + 1 + ds.length by omega]; exact g2, fun p => ?_⟩
    obtain ⟨δ1, f1, f2⟩ := e1 p
    unfold forD
    rw [f1]
    dsimp only
    rcases f2 with f2 | f2
    · rw [f2]; exact e2 p
    · rw [f2]; exact e2 p
end Pf

set_option Elab.async false
set_option linter.all false
set_option maxRecDepth 100000
set_option maxHeartbeats 0
namespace Pr
open PySem PySem.Spec PyProof.Rows L2 Pf
def topS (i : Nat) : Stmt := PySem.Challenge.pw_striptilings_k13_whole_formats.main.body.getD i (.Pass ⟨0, 0, 0, 0⟩)
def clsS (i j : Nat) : Stmt := match topS i with
  | .ClassDef (body := b) .. => b.getD j (.Pass ⟨0, 0, 0, 0⟩)
  | _ => .Pass ⟨0, 0, 0, 0⟩
/-- what ExcC asks, by a Bool -/
def excCB (K : PySem.W.Frag) (D : Addr) : Bool := decide (PySem.W.findIn K (.ref D) "__getattribute__" = some (some (.builtin "BaseException.__getattribute__"))) && (decide (PySem.W.findIn K (.ref D) "__getattr__" = some none) &&
  (decide (PySem.W.subIn K (.ref D) (.type "BaseException") = some true) && (PySem.W.hasDictIn K D && (decide (PySem.W.findIn K (.ref D) "__class__" = some (some (.builtin "object.__class__"))) &&
  (decide (PySem.W.specialIn K (.builtin "object.__class__") "__get__" = some (some (.builtin "getset_descriptor.__get__"))) && (decide (PySem.W.takesIn K (.builtin "object.__class__") = some true) && decide (PySem.W.mroIn K D (.type "object") = some true)))))))
theorem excCB_ok {K : PySem.W.Frag} {D : Addr} (h : excCB K D = true) : ExcC K D := by
  unfold excCB at h
  simp only [Bool.and_eq_true, decide_eq_true_eq] at h
  exact ⟨h.1, h.2.1, h.2.2.1, h.2.2.2.1, h.2.2.2.2.1, h.2.2.2.2.2.1, h.2.2.2.2.2.2.1, h.2.2.2.2.2.2.2⟩

/-! ### the head: facts of the top, its run -/
abbrev R : PySem.W.OpenRow := PySem.W.OpenLaw.row PySem.Challenge.rw_striptilings_k13_whole_formats
def dd_is_tile : He.DefD := ⟨("is_tile", none), "is_tile", "is_tile", defArgs (topS 14), defBody (topS 14), defScope (topS 14), [], []⟩
def dd_is_pair : He.DefD := ⟨("is_pair", none), "is_pair", "is_pair", defArgs (topS 15), defBody (topS 15), defScope (topS 15), [], []⟩
def dd_is_set : He.DefD := ⟨("is_set", none), "is_set", "is_set", defArgs (topS 16), defBody (topS 16), defScope (topS 16), [], []⟩
def dd_need_set : He.DefD := ⟨("need_set", none), "need_set", "need_set", defArgs (topS 17), defBody (topS 17), defScope (topS 17), [], []⟩
def dd_formatted : He.DefD := ⟨("formatted", none), "formatted", "formatted", defArgs (topS 19), defBody (topS 19), defScope (topS 19), [], []⟩
def dd_format_set : He.DefD := ⟨("format_set", none), "format_set", "format_set", defArgs (topS 20), defBody (topS 20), defScope (topS 20), [], []⟩
def dd_parse_set : He.DefD := ⟨("parse_set", none), "parse_set", "parse_set", defArgs (topS 21), defBody (topS 21), defScope (topS 21), [], []⟩
def dd_law_draw : He.DefD := ⟨("_law_draw", none), "_law_draw", "_law_draw", defArgs (topS 23), defBody (topS 23), defScope (topS 23), [], []⟩
def dd_law_pick : He.DefD := ⟨("_law_pick", none), "_law_pick", "_law_pick", defArgs (topS 24), defBody (topS 24), defScope (topS 24), [], []⟩
def dd_law_set : He.DefD := ⟨("_law_set", none), "_law_set", "_law_set", defArgs (topS 25), defBody (topS 25), defScope (topS 25), [], []⟩
def dd_law_which : He.DefD := ⟨("_law_which", none), "_law_which", "_law_which", defArgs (topS 26), defBody (topS 26), defScope (topS 26), [], []⟩
def dd_law_text : He.DefD := ⟨("_law_text", none), "_law_text", "_law_text", defArgs (topS 27), defBody (topS 27), defScope (topS 27), [], []⟩
def dd_law_ask : He.DefD := ⟨("_law_ask", none), "_law_ask", "_law_ask", defArgs (topS 28), defBody (topS 28), defScope (topS 28), [], []⟩
def dd_law : He.DefD := ⟨("law", none), "law", "law", defArgs (topS 29), defBody (topS 29), defScope (topS 29), [], []⟩
def fnL : List He.DefD := [dd_is_tile, dd_is_pair, dd_is_set, dd_need_set, dd_formatted, dd_format_set, dd_parse_set, dd_law_draw, dd_law_pick, dd_law_set, dd_law_which, dd_law_text, dd_law_ask, dd_law]
def faL : List He.Fa := [.glo "is_tile", .glo "is_pair", .glo "is_set", .glo "need_set", .glo "formatted", .glo "format_set", .glo "parse_set", .glo "_law_draw", .glo "_law_pick", .glo "_law_set", .glo "_law_which", .glo "_law_text", .glo "_law_ask", .glo "law", .free "ValueError", .free "abs", .free "all", .free "any", .free "bool", .free "dict", .free "enumerate", .free "int", .free "isinstance", .free "len", .free "list", .free "max", .free "min", .free "range", .free "set", .free "sorted", .free "str", .free "sum", .free "tuple", .free "zip", .str "COLOURS" (PySem.Str.ofString "abcde"), .str "LENGTHS" (PySem.Str.ofString "1234"), .glo "TileError", .glo "InvalidSet", .glo "InvalidLength", .glo "InvalidLook", .glo "InvalidTiling", .glo "NoSuchTiling", .glo "UnknownTile", .glo "Apart", .glo "NothingLaid", .glo "InvalidFormat", .exc "InvalidSet", .exc "InvalidLength", .exc "InvalidLook", .exc "InvalidTiling", .exc "NoSuchTiling", .exc "UnknownTile", .exc "Apart", .exc "NothingLaid", .exc "InvalidFormat", .exm "InvalidSet" "TileError" true, .exm "InvalidFormat" "TileError" true]
def exB (K : PySem.W.Frag) : Bool := [("InvalidSet" : Str), ("InvalidFormat" : Str)].all fun x => excCB K (xc K x) && (decide (PySem.W.kitOne K (.ref (xc K x)) (.type "ValueError") = some true) && [("InvalidSet" : Str), ("InvalidLength" : Str), ("InvalidLook" : Str), ("InvalidTiling" : Str), ("NoSuchTiling" : Str), ("UnknownTile" : Str), ("Apart" : Str), ("NothingLaid" : Str), ("InvalidFormat" : Str)].all fun y => decide (PySem.W.kitOne K (.ref (xc K x)) (.ref (xc K y)) = some (decide (x = y))))
abbrev hk : PySem.W.Hook := He.hookX 4 faL fnL [] [] exB
def ob (s : PySem.W.SharedT) : He.AlX := He.obsX 4 faL fnL [] [] exB (HandSHeadRun.getT s)
theorem ob_eq (s : PySem.W.SharedT) : ob s = hk.obs s.abs := He.obsX_eq (HandSHeadRun.getT_eq s)
def loose0 : List PySem.Str := ["TileError", "InvalidSet", "InvalidLength", "InvalidLook", "InvalidTiling", "NoSuchTiling", "UnknownTile", "Apart", "NothingLaid", "InvalidFormat", "COLOURS", "LENGTHS", "is_tile", "is_pair", "is_set", "need_set", "formatted", "format_set", "parse_set", "_law_draw", "_law_pick", "_law_set", "_law_which", "_law_text", "_law_ask"]
abbrev loose : List PySem.Str := loose0
theorem run (w : World) : HandSHeadRun.RunEq R (PySem.W.view R.prog [29]) hk ob 8000 loose w := by
  intro os
  kernel_rfl
end Pr

set_option Elab.async false
set_option linter.all false
set_option maxRecDepth 100000
set_option maxHeartbeats 4000000
namespace Pr
open PySem PySem.Spec PyProof.Rows L2 Pf
noncomputable section

def fw_dom (K : PySem.W.Frag) (C : Addr) : Prop := C = xc K "InvalidSet" ∨ C = xc K "InvalidFormat"
structure Top (K : PySem.W.Frag) (mg : Str → Option Value) : Prop where
  m_COLOURS : ∃ t, mg "COLOURS" = some (.str (PySem.Str.ofString "abcde") t)
  m_LENGTHS : ∃ t, mg "LENGTHS" = some (.str (PySem.Str.ofString "1234") t)
  x_InvalidFormat : ExcF K mg "InvalidFormat"
  x_InvalidSet : ExcF K mg "InvalidSet"
  f_ValueError : mg "ValueError" = none
  f_all : mg "all" = none
  f_isinstance : mg "isinstance" = none
  f_len : mg "len" = none
  f_list : mg "list" = none
  f_range : mg "range" = none
  f_set : mg "set" = none
  f_str : mg "str" = none
  f_tuple : mg "tuple" = none
  g_Apart : mg "Apart" = some (.ref (xc K "Apart"))
  g_InvalidFormat : mg "InvalidFormat" = some (.ref (xc K "InvalidFormat"))
  g_InvalidLength : mg "InvalidLength" = some (.ref (xc K "InvalidLength"))
  g_InvalidLook : mg "InvalidLook" = some (.ref (xc K "InvalidLook"))
  g_InvalidSet : mg "InvalidSet" = some (.ref (xc K "InvalidSet"))
  g_InvalidTiling : mg "InvalidTiling" = some (.ref (xc K "InvalidTiling"))
  g_NoSuchTiling : mg "NoSuchTiling" = some (.ref (xc K "NoSuchTiling"))
  g_NothingLaid : mg "NothingLaid" = some (.ref (xc K "NothingLaid"))
  g_TileError : mg "TileError" = some (.ref (xc K "TileError"))
  g_UnknownTile : mg "UnknownTile" = some (.ref (xc K "UnknownTile"))
  ec : ∀ C, fw_dom K C → ExcC K C
  xm : ∀ C, fw_dom K C → PySem.W.exmOne K (.ref C) (.ref (xc K "TileError")) = some true
abbrev s_is_tile : Stmt := topS 14
abbrev n_is_tile : List Str := ["value"]
theorem sc_is_tile : FnScope n_is_tile ["value"] (defScope s_is_tile) := ⟨rfl, rfl, rfl, by decide +kernel, rfl, by decide +kernel, by decide +kernel⟩
def g_is_tile (K : PySem.W.Frag) : Pf.S → Option Out := (retO (pur (pAnd (p1 (isiD "str") (slot 0)) (pAnd (p2 eqD (pA lenD (pCons (slot 0) pNil)) (fun _ => some (.int 2))) (pAnd (p2 inD (p2 ixD (slot 0) (fun _ => some (.int 0))) (fun _ => some (.str (PySem.Str.ofString "abcde")))) (p2 inD (p2 ixD (slot 0) (fun _ => some (.int 1))) (fun _ => some (.str (PySem.Str.ofString "1234")))))))))
theorem raw_is_tile {P : Program} {w : World} {K : PySem.W.Frag} {mg : Str → Option Value} {base : Heap} (T : Top K mg) (I : IsDef K mg "is_tile" s_is_tile) : DefP P w K mg base 1 "is_tile" (runP n_is_tile ["value"] (g_is_tile K)) := by
  have sc := sc_is_tile
  refine def_pure (k := 0) I sc (fun _ _ _ _ _ _ us hl => match us, hl with | [_], _ => rfl) (fun f cdv A outer s H E hr => ?_)
  have hu : (A.deeper (PyProof.Rows.envOfC "is_tile" (defScope s_is_tile) s.heap.objs.size f cdv)).units + 65 < cLine := by have := hr.un; omega
  have hu4 : (A.deeper (PyProof.Rows.envOfC "is_tile" (defScope s_is_tile) s.heap.objs.size f cdv)).units + 64 < cLine := by omega
  have pw := pwP (X := (cxOf CX0 P w K mg base n_is_tile "is_tile" (defScope s_is_tile) f cdv A outer s H E).nox)
  have tk := tkP (X := (cxOf CX0 P w K mg base n_is_tile "is_tile" (defScope s_is_tile) f cdv A outer s H E).nox)
  exact (pms_one (pms_ret (px_and (px_isi T.f_isinstance T.f_str (by decide +kernel) (px_var (i := 0))) (px_and (px_cmp (op_eqD hu4) od_eq (px_callB cr_len cd_len T.f_len (by decide +kernel) (pxa_cons (px_var (i := 0)) pxa_nil)) px_int (nomark _)) (px_and (px_cmp (or_in hu) od_in (px_at (px_var (i := 0)) px_int) (px_globS T.m_COLOURS) (by rfl)) (px_one (px_cmp (or_in hu) od_in (px_at (px_var (i := 0)) px_int) (px_globS T.m_LENGTHS) (by rfl))))))))
def fn_is_tile (K : PySem.W.Frag) : List D → Option D := runP n_is_tile ["value"] (g_is_tile K)
abbrev s_is_pair : Stmt := topS 15
abbrev n_is_pair : List Str := ["value", "tiles", "tile"]
theorem sc_is_pair : FnScope n_is_pair ["value", "tiles"] (defScope s_is_pair) := ⟨rfl, rfl, rfl, by decide +kernel, rfl, by decide +kernel, by decide +kernel⟩
def g_is_pair (K : PySem.W.Frag) : Pf.S → Option Out := (seqO (ifO (pur (pOrT (pNotT (pTest (p1 (isiD "tuple") (slot 0)))) (pTest (p2 neD (pA lenD (pCons (slot 0) pNil)) (fun _ => some (.int 2)))))) (retO (pur (fun _ => some (.bool false)))) (fun δ => some (.nx δ))) (retO (pur (pA allD (pCons (pLc (pIterS (slot 0)) (putS 2) (fun _ => some true) (pAnd (pA (fn_is_tile K) (pCons (slot 2) pNil)) (p2 inD (slot 2) (slot 1))) [2]) pNil)))))
theorem raw_is_pair {P : Program} {w : World} {K : PySem.W.Frag} {mg : Str → Option Value} {base : Heap} (T : Top K mg) (I : IsDef K mg "is_pair" s_is_pair) (D_is_tile : DefP P w K mg base 1 "is_tile" (fn_is_tile K)) : DefP P w K mg base 2 "is_pair" (runP n_is_pair ["value", "tiles"] (g_is_pair K)) := by
  have sc := sc_is_pair
  refine def_pure (k := 1) I sc (fun _ _ _ _ _ _ us hl => match us, hl with | [_, _], _ => rfl) (fun f cdv A outer s H E hr => ?_)
  have hu : (A.deeper (PyProof.Rows.envOfC "is_pair" (defScope s_is_pair) s.heap.objs.size f cdv)).units + 65 < cLine := by have := hr.un; omega
  have hu4 : (A.deeper (PyProof.Rows.envOfC "is_pair" (defScope s_is_pair) s.heap.objs.size f cdv)).units + 64 < cLine := by omega
  have pw := pwP (X := (cxOf CX0 P w K mg base n_is_pair "is_pair" (defScope s_is_pair) f cdv A outer s H E).nox)
  have tk := tkP (X := (cxOf CX0 P w K mg base n_is_pair "is_pair" (defScope s_is_pair) f cdv A outer s H E).nox)
  exact (pms_cons (pms_if (pxt_w (pxw_or (pxt_not (pxt_val (px_isi T.f_isinstance T.f_tuple (by decide +kernel) (px_var (i := 0))))) (pxw_or1 (pxt_cmp (op_neD hu4) od_ne (px_callB cr_len cd_len T.f_len (by decide +kernel) (pxa_cons (px_var (i := 0)) pxa_nil)) px_int (nomark _))))) (pms_one (pms_ret px_bl)) pms_nil) (pms_one (pms_ret (px_callB (cr_all rfl) cd_all T.f_all (by decide +kernel) (pxa_cons (px_lc [("tile", 2)] rfl sc.nd (pxil_seq (px_var (i := 0))) (blkOk_by (own := [("tile", 2)]) (N := n_is_pair) (sc := defScope s_is_pair) (by decide +kernel)) keeps_put (fun _ _ _ _ _ => (pcg_name (i := 2) sc.nd)) (fun _ _ _ _ _ => pxts_nil) (fun _ _ _ _ _ => (px_and (px_def D_is_tile hr (pxa_cons (px_var (i := 2)) pxa_nil)) (px_one (px_cmp (or_in hu) od_in (px_var (i := 2)) (px_var (i := 1)) (by rfl)))))) pxa_nil)))))
def fn_is_pair (K : PySem.W.Frag) : List D → Option D := runP n_is_pair ["value", "tiles"] (g_is_pair K)
abbrev s_is_set : Stmt := topS 16
abbrev n_is_set : List Str := ["value", "tiles", "apart", "pair", "part", "tile"]
theorem sc_is_set : FnScope n_is_set ["value"] (defScope s_is_set) := ⟨rfl, rfl, rfl, by decide +kernel, rfl, by decide +kernel, by decide +kernel⟩
def g_is_set (K : PySem.W.Frag) : Pf.S → Option Out := (seqO (ifO (pur (pOrT (pNotT (pTest (p1 (isiD "tuple") (slot 0)))) (pOrT (pTest (p2 neD (pA lenD (pCons (slot 0) pNil)) (fun _ => some (.int 2)))) (pNotT (pTest (pA allD (pCons (pLc (pIterS (slot 0)) (putS 4) (fun _ => some true) (p1 (isiD "tuple") (slot 4)) [4]) pNil))))))) (retO (pur (fun _ => some (.bool false)))) (fun δ => some (.nx δ))) (seqO (asgO (pur (slot 0)) (tupT (gsCons (putS 1) (gsCons (putS 2) gsNil)))) (seqO (ifO (pur (pOrT (pNotT (pTest (pChain leD leD (fun _ => some (.int 1)) (pA lenD (pCons (slot 1) pNil)) (fun _ => some (.int 5))))) (pOrT (pNotT (pTest (pA allD (pCons (pLc (pIterS (slot 1)) (putS 5) (fun _ => some true) (pA (fn_is_tile K) (pCons (slot 5) pNil)) [5]) pNil)))) (pTest (p2 neD (p1 lensetD (slot 1)) (pA lenD (pCons (slot 1) pNil))))))) (retO (pur (fun _ => some (.bool false)))) (fun δ => some (.nx δ))) (retO (pur (pAnd (p2 leD (pA lenD (pCons (slot 2) pNil)) (fun _ => some (.int 12))) (pAnd (pA allD (pCons (pLc (pIterS (slot 2)) (putS 3) (fun _ => some true) (pA (fn_is_pair K) (pCons (slot 3) (pCons (slot 1) pNil))) [3]) pNil)) (p2 eqD (p1 lensetD (slot 2)) (pA lenD (pCons (slot 2) pNil))))))))))
theorem raw_is_set {P : Program} {w : World} {K : PySem.W.Frag} {mg : Str → Option Value} {base : Heap} (T : Top K mg) (I : IsDef K mg "is_set" s_is_set) (D_is_pair : DefP P w K mg base 2 "is_pair" (fn_is_pair K)) (D_is_tile : DefP P w K mg base 1 "is_tile" (fn_is_tile K)) : DefP P w K mg base 3 "is_set" (runP n_is_set ["value"] (g_is_set K)) := by
  have sc := sc_is_set
  refine def_pure (k := 2) I sc (fun _ _ _ _ _ _ us hl => match us, hl with | [_], _ => rfl) (fun f cdv A outer s H E hr => ?_)
  have hu : (A.deeper (PyProof.Rows.envOfC "is_set" (defScope s_is_set) s.heap.objs.size f cdv)).units + 65 < cLine := by have := hr.un; omega
  have hu4 : (A.deeper (PyProof.Rows.envOfC "is_set" (defScope s_is_set) s.heap.objs.size f cdv)).units + 64 < cLine := by omega
  have pw := pwP (X := (cxOf CX0 P w K mg base n_is_set "is_set" (defScope s_is_set) f cdv A outer s H E).nox)
  have tk := tkP (X := (cxOf CX0 P w K mg base n_is_set "is_set" (defScope s_is_set) f cdv A outer s H E).nox)
  exact (pms_cons (pms_if (pxt_w (pxw_or (pxt_not (pxt_val (px_isi T.f_isinstance T.f_tuple (by decide +kernel) (px_var (i := 0))))) (pxw_or (pxt_cmp (op_neD hu4) od_ne (px_callB cr_len cd_len T.f_len (by decide +kernel) (pxa_cons (px_var (i := 0)) pxa_nil)) px_int (nomark _)) (pxw_or1 (pxt_not (pxt_val (px_callB (cr_all rfl) cd_all T.f_all (by decide +kernel) (pxa_cons (px_lc [("part", 4)] rfl sc.nd (pxil_seq (px_var (i := 0))) (blkOk_by (own := [("part", 4)]) (N := n_is_set) (sc := defScope s_is_set) (by decide +kernel)) keeps_put (fun _ _ _ _ _ => (pcg_name (i := 4) sc.nd)) (fun _ _ _ _ _ => pxts_nil) (fun _ _ _ _ _ => (px_isi T.f_isinstance T.f_tuple (by decide +kernel) (px_var (i := 4))))) pxa_nil)))))))) (pms_one (pms_ret px_bl)) pms_nil) (pms_cons (pms_asg (px_var (i := 0)) (pmg_tup rfl (pmgs_cons (pmg_name (i := 1) sc.nd) (pmgs_cons (pmg_name (i := 2) sc.nd) pmgs_nil)) (fun _ _ _ h => gsCons_len (fun _ _ _ h => gsCons_len (fun _ _ _ h => gsNil_len h) h) h))) (pms_cons (pms_if (pxt_w (pxw_or (pxt_not (pxt_chain op_le op_le od_le od_le px_int (px_callB cr_len cd_len T.f_len (by decide +kernel) (pxa_cons (px_var (i := 1)) pxa_nil)) px_int)) (pxw_or (pxt_not (pxt_val (px_callB (cr_all rfl) cd_all T.f_all (by decide +kernel) (pxa_cons (px_lc [("tile", 5)] rfl sc.nd (pxil_seq (px_var (i := 1))) (blkOk_by (own := [("tile", 5)]) (N := n_is_set) (sc := defScope s_is_set) (by decide +kernel)) keeps_put (fun _ _ _ _ _ => (pcg_name (i := 5) sc.nd)) (fun _ _ _ _ _ => pxts_nil) (fun _ _ _ _ _ => (px_def D_is_tile hr (pxa_cons (px_var (i := 5)) pxa_nil)))) pxa_nil)))) (pxw_or1 (pxt_cmp (op_neD hu4) od_ne (px_lenset rfl hu T.f_len T.f_set (px_var (i := 1))) (px_callB cr_len cd_len T.f_len (by decide +kernel) (pxa_cons (px_var (i := 1)) pxa_nil)) (nomark _)))))) (pms_one (pms_ret px_bl)) pms_nil) (pms_one (pms_ret (px_and (px_cmp op_le od_le (px_callB cr_len cd_len T.f_len (by decide +kernel) (pxa_cons (px_var (i := 2)) pxa_nil)) px_int (nomark _)) (px_and (px_callB (cr_all rfl) cd_all T.f_all (by decide +kernel) (pxa_cons (px_lc [("pair", 3)] rfl sc.nd (pxil_seq (px_var (i := 2))) (blkOk_by (own := [("pair", 3)]) (N := n_is_set) (sc := defScope s_is_set) (by decide +kernel)) keeps_put (fun _ _ _ _ _ => (pcg_name (i := 3) sc.nd)) (fun _ _ _ _ _ => pxts_nil) (fun _ _ _ _ _ => (px_def D_is_pair hr (pxa_cons (px_var (i := 3)) (pxa_cons (px_var (i := 1)) pxa_nil))))) pxa_nil)) (px_one (px_cmp (op_eqD hu4) od_eq (px_lenset rfl hu T.f_len T.f_set (px_var (i := 2))) (px_callB cr_len cd_len T.f_len (by decide +kernel) (pxa_cons (px_var (i := 2)) pxa_nil)) (nomark _))))))))))
def fn_is_set (K : PySem.W.Frag) : List D → Option D := runP n_is_set ["value"] (g_is_set K)
abbrev s_need_set : Stmt := topS 17
abbrev n_need_set : List Str := ["value"]
theorem sc_need_set : FnScope n_need_set ["value"] (defScope s_need_set) := ⟨rfl, rfl, rfl, by decide +kernel, rfl, by decide +kernel, by decide +kernel⟩
def g_need_set (K : PySem.W.Frag) : Pf.S → Option Out := (ifO (pur (pNotT (pTest (pA (fn_is_set K) (pCons (slot 0) pNil))))) (fun δ => some (.er (xc K "InvalidSet") δ)) (fun δ => some (.nx δ)))
theorem raw_need_set {P : Program} {w : World} {K : PySem.W.Frag} {mg : Str → Option Value} {base : Heap} (T : Top K mg) (I : IsDef K mg "need_set" s_need_set) (D_is_set : DefP P w K mg base 3 "is_set" (fn_is_set K)) : DefR P w K mg base 4 "need_set" (runR n_need_set ["value"] (g_need_set K)) := by
  have sc := sc_need_set
  refine def_raise (k := 3) I sc (fun _ _ _ _ _ _ us hl => match us, hl with | [_], _ => rfl) (fun f cdv A outer s H E hr => ?_)
  have hu : (A.deeper (PyProof.Rows.envOfC "need_set" (defScope s_need_set) s.heap.objs.size f cdv)).units + 65 < cLine := by have := hr.un; omega
  have hu4 : (A.deeper (PyProof.Rows.envOfC "need_set" (defScope s_need_set) s.heap.objs.size f cdv)).units + 64 < cLine := by omega
  have tk : L2N.Takes (cxOf (L2N.CX P w) P w K mg base n_need_set "need_set" (defScope s_need_set) f cdv A outer s H E) (fun c d _ H => E c d H) := L2N.takes_of rfl rfl rfl rfl
  have pw : PassesOwn (model P w) (A.deeper (PyProof.Rows.envOfC "need_set" (defScope s_need_set) s.heap.objs.size f cdv)) (cxOf (L2N.CX P w) P w K mg base n_need_set "need_set" (defScope s_need_set) f cdv A outer s H E).env (cxOf (L2N.CX P w) P w K mg base n_need_set "need_set" (defScope s_need_set) f cdv A outer s H E).xe := PassesOwn.leaving
  exact (pms_one (pms_if (pxt_not (pxt_val (px_def D_is_set hr (pxa_cons (px_var (i := 0)) pxa_nil)))) (pms_one (pms_raise T.x_InvalidSet rfl tk)) pms_nil))
def fn_need_set (K : PySem.W.Frag) : List D → Option (Except Addr D) := runR n_need_set ["value"] (g_need_set K)
abbrev s_formatted : Stmt := topS 19
abbrev n_formatted : List Str := ["tiles", "text", "one", "two"]
theorem sc_formatted : FnScope n_formatted ["tiles"] (defScope s_formatted) := ⟨rfl, rfl, rfl, by decide +kernel, rfl, by decide +kernel, by decide +kernel⟩
def g_formatted (K : PySem.W.Frag) : Pf.S → Option Out := (seqO (asgO (pur (p2 (fun a b => strOnly joinD a [b]) (fun _ => some (.str (PySem.Str.ofString " "))) (p2 ixD (slot 0) (fun _ => some (.int 0))))) (putS 1)) (seqO (ifO (pur (pTest (p2 neD (p2 ixD (slot 0) (fun _ => some (.int 1))) (pA tupD pNil)))) (augO 1 (pur (p2 addD (fun _ => some (.str (PySem.Str.ofString " |"))) (p2 (fun a b => strOnly joinD a [b]) (fun _ => some (.str (PySem.Str.ofString ""))) (pLc (pIterS (p2 ixD (slot 0) (fun _ => some (.int 1)))) (tupT (gsCons (putS 2) (gsCons (putS 3) gsNil))) (fun _ => some true) (p2 addD (p2 addD (p2 addD (fun _ => some (.str (PySem.Str.ofString " "))) (slot 2)) (fun _ => some (.str (PySem.Str.ofString ">")))) (slot 3)) [2, 3])))) iaddD) (fun δ => some (.nx δ))) (retO (pur (slot 1)))))
theorem raw_formatted {P : Program} {w : World} {K : PySem.W.Frag} {mg : Str → Option Value} {base : Heap} (T : Top K mg) (I : IsDef K mg "formatted" s_formatted) : DefP P w K mg base 1 "formatted" (runP n_formatted ["tiles"] (g_formatted K)) := by
  have sc := sc_formatted
  refine def_pure (k := 0) I sc (fun _ _ _ _ _ _ us hl => match us, hl with | [_], _ => rfl) (fun f cdv A outer s H E hr => ?_)
  have hu : (A.deeper (PyProof.Rows.envOfC "formatted" (defScope s_formatted) s.heap.objs.size f cdv)).units + 65 < cLine := by have := hr.un; omega
  have hu4 : (A.deeper (PyProof.Rows.envOfC "formatted" (defScope s_formatted) s.heap.objs.size f cdv)).units + 64 < cLine := by omega
  have pw := pwP (X := (cxOf CX0 P w K mg base n_formatted "formatted" (defScope s_formatted) f cdv A outer s H E).nox)
  have tk := tkP (X := (cxOf CX0 P w K mg base n_formatted "formatted" (defScope s_formatted) f cdv A outer s H E).nox)
  exact (pms_cons (pms_set (i := 1) sc.nd (px_join px_str (px_at (px_var (i := 0)) px_int))) (pms_cons (pms_if (pxt_cmp (op_neD hu4) od_ne (px_at (px_var (i := 0)) px_int) (px_tup pxa_nil) (nomark _)) (pms_one (pms_aug (i := 1) sc.nd (px_add px_str (px_join px_str (px_lc [("one", 2), ("two", 3)] rfl sc.nd (pxil_seq (px_at (px_var (i := 0)) px_int)) (blkOk_by (own := [("one", 2), ("two", 3)]) (N := n_formatted) (sc := defScope s_formatted) (by decide +kernel)) (keeps_tup (keeps_cons keeps_put (keeps_cons keeps_put keeps_nil))) (fun _ _ _ _ _ => (pcg_tup rfl (pcgs_cons (pcg_name (i := 2) sc.nd) (pcgs_cons (pcg_name (i := 3) sc.nd) pcgs_nil)) (fun _ _ _ h => gsCons_len (fun _ _ _ h => gsCons_len (fun _ _ _ h => gsNil_len h) h) h))) (fun _ _ _ _ _ => pxts_nil) (fun _ _ _ _ _ => (px_add (px_add (px_add px_str (px_var (i := 2))) px_str) (px_var (i := 3))))))) ip_addA od_iadd)) pms_nil) (pms_one (pms_ret (px_var (i := 1))))))
def fn_formatted (K : PySem.W.Frag) : List D → Option D := runP n_formatted ["tiles"] (g_formatted K)
abbrev s_format_set : Stmt := topS 20
abbrev n_format_set : List Str := ["tiles"]
theorem sc_format_set : FnScope n_format_set ["tiles"] (defScope s_format_set) := ⟨rfl, rfl, rfl, by decide +kernel, rfl, by decide +kernel, by decide +kernel⟩
def g_format_set (K : PySem.W.Frag) : Pf.S → Option Out := (seqO (callRO (fn_need_set K) (pCons (slot 0) pNil)) (retO (pur (pA (fn_formatted K) (pCons (slot 0) pNil)))))
theorem raw_format_set {P : Program} {w : World} {K : PySem.W.Frag} {mg : Str → Option Value} {base : Heap} (T : Top K mg) (I : IsDef K mg "format_set" s_format_set) (D_formatted : DefP P w K mg base 1 "formatted" (fn_formatted K)) (D_need_set : DefR P w K mg base 4 "need_set" (fn_need_set K)) : DefR P w K mg base 5 "format_set" (runR n_format_set ["tiles"] (g_format_set K)) := by
  have sc := sc_format_set
  refine def_raise (k := 4) I sc (fun _ _ _ _ _ _ us hl => match us, hl with | [_], _ => rfl) (fun f cdv A outer s H E hr => ?_)
  have hu : (A.deeper (PyProof.Rows.envOfC "format_set" (defScope s_format_set) s.heap.objs.size f cdv)).units + 65 < cLine := by have := hr.un; omega
  have hu4 : (A.deeper (PyProof.Rows.envOfC "format_set" (defScope s_format_set) s.heap.objs.size f cdv)).units + 64 < cLine := by omega
  have tk : L2N.Takes (cxOf (L2N.CX P w) P w K mg base n_format_set "format_set" (defScope s_format_set) f cdv A outer s H E) (fun c d _ H => E c d H) := L2N.takes_of rfl rfl rfl rfl
  have pw : PassesOwn (model P w) (A.deeper (PyProof.Rows.envOfC "format_set" (defScope s_format_set) s.heap.objs.size f cdv)) (cxOf (L2N.CX P w) P w K mg base n_format_set "format_set" (defScope s_format_set) f cdv A outer s H E).env (cxOf (L2N.CX P w) P w K mg base n_format_set "format_set" (defScope s_format_set) f cdv A outer s H E).xe := PassesOwn.leaving
  exact (pms_cons (pms_callR D_need_set hr tk (pxa_cons (px_var (i := 0)) pxa_nil)) (pms_one (pms_ret (px_def D_formatted hr (pxa_cons (px_var (i := 0)) pxa_nil)))))
def fn_format_set (K : PySem.W.Frag) : List D → Option (Except Addr D) := runR n_format_set ["tiles"] (g_format_set K)
abbrev s_parse_set : Stmt := topS 21
abbrev n_parse_set : List Str := ["text", "pairs", "tiles", "front", "bar", "back", "word"]
theorem sc_parse_set : FnScope n_parse_set ["text"] (defScope s_parse_set) := ⟨rfl, rfl, rfl, by decide +kernel, rfl, by decide +kernel, by decide +kernel⟩
def g_parse_set (K : PySem.W.Frag) : Pf.S → Option Out := (seqO (ifO (pur (pNotT (pTest (p1 (isiD "str") (slot 0))))) (fun δ => some (.er (xc K "InvalidFormat") δ)) (fun δ => some (.nx δ))) (seqO (asgO (pur (p2 (fun a b => strOnly partD a [b]) (slot 0) (fun _ => some (.str (PySem.Str.ofString " | "))))) (tupT (gsCons (putS 3) (gsCons (putS 4) (gsCons (putS 5) gsNil))))) (seqO (asgO (pur (pA lstD pNil)) (putS 1)) (seqO (ifO (pur (pTest (p2 neD (slot 4) (fun _ => some (.str (PySem.Str.ofString "")))))) (asgO (pur (pLc (pIterS (p2 (fun a b => strOnly splitD a [b]) (slot 5) (fun _ => some (.str (PySem.Str.ofString " "))))) (putS 6) (fun _ => some true) (pA tupleD (pCons (p2 (fun a b => strOnly splitD a [b]) (slot 6) (fun _ => some (.str (PySem.Str.ofString ">")))) pNil)) [6])) (putS 1)) (fun δ => some (.nx δ))) (seqO (asgO (pur (pA tupD (pCons (pA tupleD (pCons (p2 (fun a b => strOnly splitD a [b]) (slot 3) (fun _ => some (.str (PySem.Str.ofString " ")))) pNil)) (pCons (pA tupleD (pCons (slot 1) pNil)) pNil)))) (putS 2)) (seqO (ifO (pur (pOrT (pNotT (pTest (pA (fn_is_set K) (pCons (slot 2) pNil)))) (pTest (p2 neD (pA (fn_formatted K) (pCons (slot 2) pNil)) (slot 0))))) (fun δ => some (.er (xc K "InvalidFormat") δ)) (fun δ => some (.nx δ))) (retO (pur (slot 2)))))))))
theorem raw_parse_set {P : Program} {w : World} {K : PySem.W.Frag} {mg : Str → Option Value} {base : Heap} (T : Top K mg) (I : IsDef K mg "parse_set" s_parse_set) (D_formatted : DefP P w K mg base 1 "formatted" (fn_formatted K)) (D_is_set : DefP P w K mg base 3 "is_set" (fn_is_set K)) : DefR P w K mg base 4 "parse_set" (runR n_parse_set ["text"] (g_parse_set K)) := by
  have sc := sc_parse_set
  refine def_raise (k := 3) I sc (fun _ _ _ _ _ _ us hl => match us, hl with | [_], _ => rfl) (fun f cdv A outer s H E hr => ?_)
  have hu : (A.deeper (PyProof.Rows.envOfC "parse_set" (defScope s_parse_set) s.heap.objs.size f cdv)).units + 65 < cLine := by have := hr.un; omega
  have hu4 : (A.deeper (PyProof.Rows.envOfC "parse_set" (defScope s_parse_set) s.heap.objs.size f cdv)).units + 64 < cLine := by omega
  have tk : L2N.Takes (cxOf (L2N.CX P w) P w K mg base n_parse_set "parse_set" (defScope s_parse_set) f cdv A outer s H E) (fun c d _ H => E c d H) := L2N.takes_of rfl rfl rfl rfl
  have pw : PassesOwn (model P w) (A.deeper (PyProof.Rows.envOfC "parse_set" (defScope s_parse_set) s.heap.objs.size f cdv)) (cxOf (L2N.CX P w) P w K mg base n_parse_set "parse_set" (defScope s_parse_set) f cdv A outer s H E).env (cxOf (L2N.CX P w) P w K mg base n_parse_set "parse_set" (defScope s_parse_set) f cdv A outer s H E).xe := PassesOwn.leaving
  exact (pms_cons (pms_if (pxt_not (pxt_val (px_isi T.f_isinstance T.f_str (by decide +kernel) (px_var (i := 0))))) (pms_one (pms_raise T.x_InvalidFormat rfl tk)) pms_nil) (pms_cons (pms_asg (px_part (px_var (i := 0)) px_str) (pmg_tup rfl (pmgs_cons (pmg_name (i := 3) sc.nd) (pmgs_cons (pmg_name (i := 4) sc.nd) (pmgs_cons (pmg_name (i := 5) sc.nd) pmgs_nil))) (fun _ _ _ h => gsCons_len (fun _ _ _ h => gsCons_len (fun _ _ _ h => gsCons_len (fun _ _ _ h => gsNil_len h) h) h) h))) (pms_cons (pms_set (i := 1) sc.nd (px_lst pxa_nil)) (pms_cons (pms_if (pxt_cmp (op_neD hu4) od_ne (px_var (i := 4)) px_str (nomark _)) (pms_one (pms_setLcX (i := 1) [("word", 6)] rfl sc.nd (pxil_seq (px_split (px_var (i := 5)) px_str)) (blkOk_by (own := [("word", 6)]) (N := n_parse_set) (sc := defScope s_parse_set) (by decide +kernel)) keeps_put (fun _ _ _ _ _ => (pcg_name (i := 6) sc.nd)) (fun _ _ _ _ _ => pxts_nil) (fun _ _ _ _ _ => (px_callTy call_tuple_of cd_tuple T.f_tuple (by decide +kernel) (pxa_cons (px_split (px_var (i := 6)) px_str) pxa_nil))) (sw_true rfl rfl rfl (by decide +kernel)))) pms_nil) (pms_cons (pms_set (i := 2) sc.nd (px_tup (pxa_cons (px_callTy call_tuple_of cd_tuple T.f_tuple (by decide +kernel) (pxa_cons (px_split (px_var (i := 3)) px_str) pxa_nil)) (pxa_cons (px_callTy call_tuple_of cd_tuple T.f_tuple (by decide +kernel) (pxa_cons (px_var (i := 1)) pxa_nil)) pxa_nil)))) (pms_cons (pms_if (pxt_w (pxw_or (pxt_not (pxt_val (px_def D_is_set hr (pxa_cons (px_var (i := 2)) pxa_nil)))) (pxw_or1 (pxt_cmp (op_neD hu4) od_ne (px_def D_formatted hr (pxa_cons (px_var (i := 2)) pxa_nil)) (px_var (i := 0)) (nomark _))))) (pms_one (pms_raise T.x_InvalidFormat rfl tk)) pms_nil) (pms_one (pms_ret (px_var (i := 2))))))))))
def fn_parse_set (K : PySem.W.Frag) : List D → Option (Except Addr D) := runR n_parse_set ["text"] (g_parse_set K)
abbrev s_law_draw : Stmt := topS 23
abbrev n_law_draw : List Str := ["script", "town", "many", "at", "mixed", "one"]
theorem sc_law_draw : FnScope n_law_draw ["script", "town", "many"] (defScope s_law_draw) := ⟨rfl, rfl, rfl, by decide +kernel, rfl, by decide +kernel, by decide +kernel⟩
def g_law_draw (K : PySem.W.Frag) : Pf.S → Option Out := (seqO (ifO (pur (lntT (pTest (p2 gtD (p2 ixD (slot 1) (fun _ => some (.int 1))) (fun _ => some (.int 0)))))) (seqO (asgO (pur (lnt (p2 modD (p2 ixD (slot 1) (fun _ => some (.int 1))) (slot 2)))) (putS 5)) (seqO (sitO 1 (fun _ => some (.int 1)) (lnt (p2 fdivD (p2 ixD (slot 1) (fun _ => some (.int 1))) (slot 2)))) (retO (pur (slot 5))))) (fun δ => some (.nx δ))) (seqO (asgO (pur (lnt (p2 ixD (slot 1) (fun _ => some (.int 0))))) (putS 3)) (seqO (sagO 1 (fun _ => some (.int 0)) (fun _ => some (.int 1)) iaddD) (seqO (ifO (pur (flNil 0)) (retO (pur (p2 modD (slot 3) (slot 2)))) (fun δ => some (.nx δ))) (seqO (ifO (pur (pAndT (pTest (p2 ltD (slot 3) (flLen 0))) (pTest (p2 geD (flAt 0 (slot 3)) (p2 powD (fun _ => some (.int 10)) (fun _ => some (.int 18))))))) (seqO (sitO 1 (fun _ => some (.int 1)) (p2 modD (p2 fdivD (flAt 0 (slot 3)) (slot 2)) (p2 mulD (p2 powD (fun _ => some (.int 10)) (fun _ => some (.int 60))) (p2 powD (fun _ => some (.int 10)) (fun _ => some (.int 60)))))) (retO (pur (p2 modD (flAt 0 (slot 3)) (slot 2))))) (fun δ => some (.nx δ))) (seqO (asgO (pur (p2 modD (p2 addD (p2 addD (p2 mulD (flAt 0 (p2 modD (slot 3) (flLen 0))) (fun _ => some (.int 1103515245))) (p2 mulD (fun _ => some (.int 7919)) (slot 3))) (fun _ => some (.int 12345))) (fun _ => some (.int 2147483647)))) (putS 4)) (retO (pur (p2 modD (p2 modD (p2 modD (p2 powD (slot 4) (fun _ => some (.int 5))) (fun _ => some (.int 2147483647))) (fun _ => some (.int 999983))) (slot 2))))))))))
theorem raw_law_draw {P : Program} {w : World} {K : PySem.W.Frag} {mg : Str → Option Value} {base : Heap} (T : Top K mg) (I : IsDef K mg "_law_draw" s_law_draw) {fn : List Sl → Ow → Option (Except Addr D × Ow)} (hfn : ∀ ss o r, fn ss o = some r → ss.length = 3 ∧ ∀ p, (g_law_draw K (initO n_law_draw 1 p ss o)).bind (outO 1 p) = some r) : DefO P w K mg base 1 "_law_draw" 1 fn := by
  have sc := sc_law_draw
  refine def_own (k := 0) I sc (fun _ _ _ _ _ _ us hl => match us, hl with | [_, _, _], _ => rfl) (fun f cdv A outer s H E hr => ?_) hfn
  have hu : (A.deeper (PyProof.Rows.envOfC "_law_draw" (defScope s_law_draw) s.heap.objs.size f cdv)).units + 65 < cLine := by have := hr.un; omega
  have hu4 : (A.deeper (PyProof.Rows.envOfC "_law_draw" (defScope s_law_draw) s.heap.objs.size f cdv)).units + 64 < cLine := by omega
  have tk : L2N.Takes (cxOf (L2N.CX P w) P w K mg base n_law_draw "_law_draw" (defScope s_law_draw) f cdv A outer s H E) (fun c d _ H => E c d H) := L2N.takes_of rfl rfl rfl rfl
  have pw : PassesOwn (model P w) (A.deeper (PyProof.Rows.envOfC "_law_draw" (defScope s_law_draw) s.heap.objs.size f cdv)) (cxOf (L2N.CX P w) P w K mg base n_law_draw "_law_draw" (defScope s_law_draw) f cdv A outer s H E).env (cxOf (L2N.CX P w) P w K mg base n_law_draw "_law_draw" (defScope s_law_draw) f cdv A outer s H E).xe := PassesOwn.leaving
  exact (pms_cons (pms_if (pxt_lend (pxt_cmp op_gt od_gt (px_at (px_var (i := 1)) px_int) px_int (nomark _))) (pms_cons (pms_set (i := 5) sc.nd (px_lend (px_mod (px_at (px_var (i := 1)) px_int) (px_var (i := 2))))) (pms_cons (pms_sit (i := 1) px_int (px_lend (px_fdiv (px_at (px_var (i := 1)) px_int) (px_var (i := 2))))) (pms_one (pms_ret (px_var (i := 5)))))) pms_nil) (pms_cons (pms_set (i := 3) sc.nd (px_lend (px_at (px_var (i := 1)) px_int))) (pms_cons (pms_sag (i := 1) px_int px_int ip_addA od_iadd) (pms_cons (pms_if (pxt_flNil (i := 0) hu4) (pms_one (pms_ret (px_mod (px_var (i := 3)) (px_var (i := 2))))) pms_nil) (pms_cons (pms_if (pxt_w (pxw_and (pxt_cmp op_lt od_lt (px_var (i := 3)) (px_flLen (i := 0) T.f_len) (nomark _)) (pxw_and1 (pxt_cmp op_ge od_ge (px_flAt (i := 0) (px_var (i := 3))) (px_pow px_int px_int) (nomark _))))) (pms_cons (pms_sit (i := 1) px_int (px_mod (px_fdiv (px_flAt (i := 0) (px_var (i := 3))) (px_var (i := 2))) (px_mul (px_pow px_int px_int) (px_pow px_int px_int)))) (pms_one (pms_ret (px_mod (px_flAt (i := 0) (px_var (i := 3))) (px_var (i := 2)))))) pms_nil) (pms_cons (pms_set (i := 4) sc.nd (px_mod (px_add (px_add (px_mul (px_flAt (i := 0) (px_mod (px_var (i := 3)) (px_flLen (i := 0) T.f_len))) px_int) (px_mul px_int (px_var (i := 3)))) px_int) px_int)) (pms_one (pms_ret (px_mod (px_mod (px_mod (px_pow (px_var (i := 4)) px_int) px_int) px_int) (px_var (i := 2)))))))))))
noncomputable def fn_law_draw (K : PySem.W.Frag) : List Sl → Ow → Option (Except Addr D × Ow) := fnO 3 n_law_draw (g_law_draw K)
abbrev s_law_pick : Stmt := topS 24
abbrev n_law_pick : List Str := ["script", "town", "some"]
theorem sc_law_pick : FnScope n_law_pick ["script", "town", "some"] (defScope s_law_pick) := ⟨rfl, rfl, rfl, by decide +kernel, rfl, by decide +kernel, by decide +kernel⟩
def g_law_pick (K : PySem.W.Frag) : Pf.S → Option Out := (retO (m2 ixD (pur (slot 2)) (mO 1 1 (fn_law_draw K) (axFl 0 (axOw 1 (axIm (pA lenD (pCons (slot 2) pNil)) (fun _ => some [])))))))
theorem raw_law_pick {P : Program} {w : World} {K : PySem.W.Frag} {mg : Str → Option Value} {base : Heap} (T : Top K mg) (I : IsDef K mg "_law_pick" s_law_pick) (D_law_draw : DefO P w K mg base 1 "_law_draw" 1 (fn_law_draw K)) {fn : List Sl → Ow → Option (Except Addr D × Ow)} (hfn : ∀ ss o r, fn ss o = some r → ss.length = 3 ∧ ∀ p, (g_law_pick K (initO n_law_pick 1 p ss o)).bind (outO 1 p) = some r) : DefO P w K mg base 2 "_law_pick" 1 fn := by
  have sc := sc_law_pick
  refine def_own (k := 1) I sc (fun _ _ _ _ _ _ us hl => match us, hl with | [_, _, _], _ => rfl) (fun f cdv A outer s H E hr => ?_) hfn
  have hu : (A.deeper (PyProof.Rows.envOfC "_law_pick" (defScope s_law_pick) s.heap.objs.size f cdv)).units + 65 < cLine := by have := hr.un; omega
  have hu4 : (A.deeper (PyProof.Rows.envOfC "_law_pick" (defScope s_law_pick) s.heap.objs.size f cdv)).units + 64 < cLine := by omega
  have tk : L2N.Takes (cxOf (L2N.CX P w) P w K mg base n_law_pick "_law_pick" (defScope s_law_pick) f cdv A outer s H E) (fun c d _ H => E c d H) := L2N.takes_of rfl rfl rfl rfl
  have pw : PassesOwn (model P w) (A.deeper (PyProof.Rows.envOfC "_law_pick" (defScope s_law_pick) s.heap.objs.size f cdv)) (cxOf (L2N.CX P w) P w K mg base n_law_pick "_law_pick" (defScope s_law_pick) f cdv A outer s H E).env (cxOf (L2N.CX P w) P w K mg base n_law_pick "_law_pick" (defScope s_law_pick) f cdv A outer s H E).xe := PassesOwn.leaving
  exact (pms_one (pms_ret (pm_at (px_var (i := 2)) (pm_defO (j := 1) D_law_draw hr (pax_fl (i := 0) (pax_ow (pax_im (px_callB cr_len cd_len T.f_len (by decide +kernel) (pxa_cons (px_var (i := 2)) pxa_nil)) pax_nil)))))))
noncomputable def fn_law_pick (K : PySem.W.Frag) : List Sl → Ow → Option (Except Addr D × Ow) := fnO 3 n_law_pick (g_law_pick K)
abbrev s_law_set : Stmt := topS 25
abbrev n_law_set : List Str := ["script", "town", "most", "k", "row", "pairs", "tile", "pair"]
theorem sc_law_set : FnScope n_law_set ["script", "town", "most"] (defScope s_law_set) := ⟨rfl, rfl, rfl, by decide +kernel, rfl, by decide +kernel, by decide +kernel⟩
def g_law_set (K : PySem.W.Frag) : Pf.S → Option Out := (seqO (parV 4 5 (vsCons (vLst pNil) (vsCons (vLst pNil) (fun δ => some ([], δ))))) (seqO (forO (mLst range1D (mCons (m2 addD (pur (fun _ => some (.int 1))) (mO 1 1 (fn_law_draw K) (axFl 0 (axOw 1 (axIm (slot 2) (fun _ => some [])))))) mNil)) (putS 3) (seqO (asgO (m2 addD (mO 1 1 (fn_law_pick K) (axFl 0 (axOw 1 (axIm (fun _ => some (.str (PySem.Str.ofString "aabbc"))) (fun _ => some []))))) (mO 1 1 (fn_law_pick K) (axFl 0 (axOw 1 (axIm (fun _ => some (.str (PySem.Str.ofString "11223344"))) (fun _ => some [])))))) (putS 6)) (ifO (pur (lntT (pTest (p2 notInD (slot 6) (slot 4))))) (appO 4 (slot 6)) (fun δ => some (.nx δ))))) (giv 4 (seqO (forO (mLst range1D (mCons (mO 1 1 (fn_law_draw K) (axFl 0 (axOw 1 (axIm (fun _ => some (.int 5)) (fun _ => some []))))) mNil)) (putS 3) (seqO (asgO (mA tupD (mCons (mO 1 1 (fn_law_pick K) (axFl 0 (axOw 1 (axIm (slot 4) (fun _ => some []))))) (mCons (mO 1 1 (fn_law_pick K) (axFl 0 (axOw 1 (axIm (slot 4) (fun _ => some []))))) mNil))) (putS 7)) (ifO (pur (lntT (pTest (p2 notInD (slot 7) (slot 5))))) (appO 5 (slot 7)) (fun δ => some (.nx δ))))) (giv 5 (retO (pur (pA tupD (pCons (pA tupleD (pCons (slot 4) pNil)) (pCons (pA tupleD (pCons (slot 5) pNil)) pNil))))))))))
theorem raw_law_set {P : Program} {w : World} {K : PySem.W.Frag} {mg : Str → Option Value} {base : Heap} (T : Top K mg) (I : IsDef K mg "_law_set" s_law_set) (D_law_draw : DefO P w K mg base 1 "_law_draw" 1 (fn_law_draw K)) (D_law_pick : DefO P w K mg base 2 "_law_pick" 1 (fn_law_pick K)) {fn : List Sl → Ow → Option (Except Addr D × Ow)} (hfn : ∀ ss o r, fn ss o = some r → ss.length = 3 ∧ ∀ p, (g_law_set K (initO n_law_set 1 p ss o)).bind (outO 1 p) = some r) : DefO P w K mg base 3 "_law_set" 1 fn := by
  have sc := sc_law_set
  refine def_own (k := 2) I sc (fun _ _ _ _ _ _ us hl => match us, hl with | [_, _, _], _ => rfl) (fun f cdv A outer s H E hr => ?_) hfn
  have hu : (A.deeper (PyProof.Rows.envOfC "_law_set" (defScope s_law_set) s.heap.objs.size f cdv)).units + 65 < cLine := by have := hr.un; omega
  have hu4 : (A.deeper (PyProof.Rows.envOfC "_law_set" (defScope s_law_set) s.heap.objs.size f cdv)).units + 64 < cLine := by omega
  have tk : L2N.Takes (cxOf (L2N.CX P w) P w K mg base n_law_set "_law_set" (defScope s_law_set) f cdv A outer s H E) (fun c d _ H => E c d H) := L2N.takes_of rfl rfl rfl rfl
  have pw : PassesOwn (model P w) (A.deeper (PyProof.Rows.envOfC "_law_set" (defScope s_law_set) s.heap.objs.size f cdv)) (cxOf (L2N.CX P w) P w K mg base n_law_set "_law_set" (defScope s_law_set) f cdv A outer s H E).env (cxOf (L2N.CX P w) P w K mg base n_law_set "_law_set" (defScope s_law_set) f cdv A outer s H E).xe := PassesOwn.leaving
  exact (pms_cons (pms_parV (i := 4) (j := 5) rfl sc.nd (pvs_cons (pv_lst pxa_nil) (pvs_cons (pv_lst pxa_nil) pvs_nil))) (pms_cons (pms_for pw rfl (pmi_range1 T.f_range (pma_cons (pm_add px_int (pm_defO (j := 1) D_law_draw hr (pax_fl (i := 0) (pax_ow (pax_im (px_var (i := 2)) pax_nil))))) pma_nil)) (pmg_name (i := 3) sc.nd) (pms_cons (pms_set (i := 6) sc.nd (pm_add (pm_defO (j := 1) D_law_pick hr (pax_fl (i := 0) (pax_ow (pax_im px_str pax_nil)))) (pm_defO (j := 1) D_law_pick hr (pax_fl (i := 0) (pax_ow (pax_im px_str pax_nil)))))) (pms_one (pms_if (pxt_lend (pxt_cmp (or_notIn hu) od_notIn (px_var (i := 6)) (px_var (i := 4)) (by rfl))) (pms_one (pms_append (i := 4) (px_var (i := 6)))) pms_nil)))) (pms_giv 4 (pms_cons (pms_for pw rfl (pmi_range1 T.f_range (pma_cons (pm_defO (j := 1) D_law_draw hr (pax_fl (i := 0) (pax_ow (pax_im px_int pax_nil)))) pma_nil)) (pmg_name (i := 3) sc.nd) (pms_cons (pms_set (i := 7) sc.nd (pm_tup (pma_cons (pm_defO (j := 1) D_law_pick hr (pax_fl (i := 0) (pax_ow (pax_im (px_var (i := 4)) pax_nil)))) (pma_cons (pm_defO (j := 1) D_law_pick hr (pax_fl (i := 0) (pax_ow (pax_im (px_var (i := 4)) pax_nil)))) pma_nil)))) (pms_one (pms_if (pxt_lend (pxt_cmp (or_notIn hu) od_notIn (px_var (i := 7)) (px_var (i := 5)) (by rfl))) (pms_one (pms_append (i := 5) (px_var (i := 7)))) pms_nil)))) (pms_giv 5 (pms_one (pms_ret (px_tup (pxa_cons (px_callTy call_tuple_of cd_tuple T.f_tuple (by decide +kernel) (pxa_cons (px_var (i := 4)) pxa_nil)) (pxa_cons (px_callTy call_tuple_of cd_tuple T.f_tuple (by decide +kernel) (pxa_cons (px_var (i := 5)) pxa_nil)) pxa_nil))))))))))
noncomputable def fn_law_set (K : PySem.W.Frag) : List Sl → Ow → Option (Except Addr D × Ow) := fnO 3 n_law_set (g_law_set K)
abbrev s_law_which : Stmt := topS 26
abbrev n_law_which : List Str := ["error", "own"]
theorem sc_law_which : FnScope n_law_which ["error"] (defScope s_law_which) := ⟨rfl, rfl, rfl, by decide +kernel, rfl, by decide +kernel, by decide +kernel⟩
def g_law_which (K : PySem.W.Frag) (a C : Addr) : Pf.S → Option Out := (seqO (setV 1 (vLst (pCons (isEO 0 a (PySem.W.kitOne K (.ref C) (.ref (xc K "InvalidSet")))) (pCons (isEO 0 a (PySem.W.kitOne K (.ref C) (.ref (xc K "InvalidLength")))) pNil)))) (seqO (extO 1 (pA lstD (pCons (isEO 0 a (PySem.W.kitOne K (.ref C) (.ref (xc K "InvalidLook")))) pNil))) (seqO (extO 1 (pA lstD (pCons (isEO 0 a (PySem.W.kitOne K (.ref C) (.ref (xc K "InvalidTiling")))) (pCons (isEO 0 a (PySem.W.kitOne K (.ref C) (.ref (xc K "NoSuchTiling")))) pNil)))) (seqO (extO 1 (pA lstD (pCons (isEO 0 a (PySem.W.kitOne K (.ref C) (.ref (xc K "UnknownTile")))) pNil))) (seqO (extO 1 (pA lstD (pCons (isEO 0 a (PySem.W.kitOne K (.ref C) (.ref (xc K "Apart")))) (pCons (isEO 0 a (PySem.W.kitOne K (.ref C) (.ref (xc K "NothingLaid")))) pNil)))) (seqO (extO 1 (pA lstD (pCons (isEO 0 a (PySem.W.kitOne K (.ref C) (.ref (xc K "InvalidFormat")))) pNil))) (giv 1 (seqO (ifO (pur (pOrT (pTest (p2 neD (p2 (lstOnly cntD) (slot 1) (fun _ => some (.bool true))) (fun _ => some (.int 1)))) (pNotT (pTest (isEO 0 a (PySem.W.kitOne K (.ref C) (.type "ValueError"))))))) (retO (pur (pA tupD (pCons (fun _ => some (.str (PySem.Str.ofString "raised"))) (pCons (p1 negD (fun _ => some (.int 1))) pNil))))) (fun δ => some (.nx δ))) (retO (pur (pA tupD (pCons (fun _ => some (.str (PySem.Str.ofString "raised"))) (pCons (p2 (lstOnly idxD) (slot 1) (fun _ => some (.bool true))) pNil)))))))))))))
theorem raw_law_which {P : Program} {w : World} {K : PySem.W.Frag} {mg : Str → Option Value} {base : Heap} (T : Top K mg) (I : IsDef K mg "_law_which" s_law_which) (ecs : ∀ C, fw_dom K C → ExcC K C) {fw : Addr → Option D} (hd : ∀ C d, fw C = some d → fw_dom K C) (hfn : ∀ C d, fw C = some d → ∀ a, (g_law_which K a C (initW n_law_which a)).bind outP = some d) : DefW P w K mg base 1 "_law_which" fw := by
  have sc := sc_law_which
  refine def_which (k := 0) (g := fun a C => whG (fw_dom K C) (g_law_which K a C)) I sc rfl (fun _ _ _ _ _ _ us hl => match us, hl with | [_], _ => rfl) (fun f cdv A outer s H p C hz hfl hr => whP fun dom => ?_) (fun C d h a => by rw [whG_of (hd C d h)]; exact hfn C d h a)
  have hu : (A.deeper (PyProof.Rows.envOfC "_law_which" (defScope s_law_which) s.heap.objs.size f cdv)).units + 65 < cLine := by have := hr.un; omega
  have hu4 : (A.deeper (PyProof.Rows.envOfC "_law_which" (defScope s_law_which) s.heap.objs.size f cdv)).units + 64 < cLine := by omega
  have ec := ecs C dom
  exact (pms_cons (pms_setV (i := 1) sc.nd (pv_lst (pxa_cons (px_isE (i := 0) ec hz hfl (List.mem_singleton.mpr rfl) T.f_isinstance (pe_gx T.g_InvalidSet) (fun _ r => r)) (pxa_cons (px_isE (i := 0) ec hz hfl (List.mem_singleton.mpr rfl) T.f_isinstance (pe_gx T.g_InvalidLength) (fun _ r => r)) pxa_nil)))) (pms_cons (pms_extend (i := 1) (px_lst (pxa_cons (px_isE (i := 0) ec hz hfl (List.mem_singleton.mpr rfl) T.f_isinstance (pe_gx T.g_InvalidLook) (fun _ r => r)) pxa_nil))) (pms_cons (pms_extend (i := 1) (px_lst (pxa_cons (px_isE (i := 0) ec hz hfl (List.mem_singleton.mpr rfl) T.f_isinstance (pe_gx T.g_InvalidTiling) (fun _ r => r)) (pxa_cons (px_isE (i := 0) ec hz hfl (List.mem_singleton.mpr rfl) T.f_isinstance (pe_gx T.g_NoSuchTiling) (fun _ r => r)) pxa_nil)))) (pms_cons (pms_extend (i := 1) (px_lst (pxa_cons (px_isE (i := 0) ec hz hfl (List.mem_singleton.mpr rfl) T.f_isinstance (pe_gx T.g_UnknownTile) (fun _ r => r)) pxa_nil))) (pms_cons (pms_extend (i := 1) (px_lst (pxa_cons (px_isE (i := 0) ec hz hfl (List.mem_singleton.mpr rfl) T.f_isinstance (pe_gx T.g_Apart) (fun _ r => r)) (pxa_cons (px_isE (i := 0) ec hz hfl (List.mem_singleton.mpr rfl) T.f_isinstance (pe_gx T.g_NothingLaid) (fun _ r => r)) pxa_nil)))) (pms_cons (pms_extend (i := 1) (px_lst (pxa_cons (px_isE (i := 0) ec hz hfl (List.mem_singleton.mpr rfl) T.f_isinstance (pe_gx T.g_InvalidFormat) (fun _ r => r)) pxa_nil))) (pms_giv 1 (pms_cons (pms_if (pxt_w (pxw_or (pxt_cmp (op_neD hu4) od_ne (px_count hu (px_var (i := 1)) px_bl) px_int (nomark _)) (pxw_or1 (pxt_not (pxt_val (px_isE (i := 0) ec hz hfl (List.mem_singleton.mpr rfl) T.f_isinstance (pe_tx T.f_ValueError (by decide +kernel)) (fun _ r => r))))))) (pms_one (pms_ret (px_tup (pxa_cons px_str (pxa_cons (px_neg px_int) pxa_nil))))) pms_nil) (pms_one (pms_ret (px_tup (pxa_cons px_str (pxa_cons (px_index hu (px_var (i := 1)) px_bl) pxa_nil)))))))))))))
noncomputable def fn_law_which (K : PySem.W.Frag) : Addr → Option D := fnW (fw_dom K) n_law_which (g_law_which K)
theorem cl_law_which {K : PySem.W.Frag} {mg : Str → Option Value} (T : Top K mg) : ∀ C d, fn_law_which K C = some d → PySem.W.exmOne K (.ref C) (.ref (xc K "TileError")) = some true := fun C d h => T.xm C (fnW_dom C d h)
abbrev s_law_text : Stmt := topS 27
abbrev n_law_text : List Str := ["tiles", "text", "one", "two"]
theorem sc_law_text : FnScope n_law_text ["tiles"] (defScope s_law_text) := ⟨rfl, rfl, rfl, by decide +kernel, rfl, by decide +kernel, by decide +kernel⟩
def g_law_text (K : PySem.W.Frag) : Pf.S → Option Out := (seqO (asgO (pur (p2 (fun a b => strOnly joinD a [b]) (fun _ => some (.str (PySem.Str.ofString " "))) (p2 ixD (slot 0) (fun _ => some (.int 0))))) (putS 1)) (seqO (ifO (pur (pTest (p2 neD (p2 ixD (slot 0) (fun _ => some (.int 1))) (pA tupD pNil)))) (seqO (asgO (pur (p2 addD (slot 1) (fun _ => some (.str (PySem.Str.ofString " |"))))) (putS 1)) (forO (pur (pIter (p2 ixD (slot 0) (fun _ => some (.int 1))))) (tupT (gsCons (putS 2) (gsCons (putS 3) gsNil))) (asgO (pur (p2 addD (p2 addD (p2 addD (p2 addD (slot 1) (fun _ => some (.str (PySem.Str.ofString " ")))) (slot 2)) (fun _ => some (.str (PySem.Str.ofString ">")))) (slot 3))) (putS 1)))) (fun δ => some (.nx δ))) (retO (pur (slot 1)))))
theorem raw_law_text {P : Program} {w : World} {K : PySem.W.Frag} {mg : Str → Option Value} {base : Heap} (T : Top K mg) (I : IsDef K mg "_law_text" s_law_text) : DefP P w K mg base 1 "_law_text" (runP n_law_text ["tiles"] (g_law_text K)) := by
  have sc := sc_law_text
  refine def_pure (k := 0) I sc (fun _ _ _ _ _ _ us hl => match us, hl with | [_], _ => rfl) (fun f cdv A outer s H E hr => ?_)
  have hu : (A.deeper (PyProof.Rows.envOfC "_law_text" (defScope s_law_text) s.heap.objs.size f cdv)).units + 65 < cLine := by have := hr.un; omega
  have hu4 : (A.deeper (PyProof.Rows.envOfC "_law_text" (defScope s_law_text) s.heap.objs.size f cdv)).units + 64 < cLine := by omega
  have pw := pwP (X := (cxOf CX0 P w K mg base n_law_text "_law_text" (defScope s_law_text) f cdv A outer s H E).nox)
  have tk := tkP (X := (cxOf CX0 P w K mg base n_law_text "_law_text" (defScope s_law_text) f cdv A outer s H E).nox)
  exact (pms_cons (pms_set (i := 1) sc.nd (px_join px_str (px_at (px_var (i := 0)) px_int))) (pms_cons (pms_if (pxt_cmp (op_neD hu4) od_ne (px_at (px_var (i := 0)) px_int) (px_tup pxa_nil) (nomark _)) (pms_cons (pms_set (i := 1) sc.nd (px_add (px_var (i := 1)) px_str)) (pms_one (pms_for pw rfl (pxi_seq (px_at (px_var (i := 0)) px_int)) (pmg_tup rfl (pmgs_cons (pmg_name (i := 2) sc.nd) (pmgs_cons (pmg_name (i := 3) sc.nd) pmgs_nil)) (fun _ _ _ h => gsCons_len (fun _ _ _ h => gsCons_len (fun _ _ _ h => gsNil_len h) h) h)) (pms_one (pms_set (i := 1) sc.nd (px_add (px_add (px_add (px_add (px_var (i := 1)) px_str) (px_var (i := 2))) px_str) (px_var (i := 3)))))))) pms_nil) (pms_one (pms_ret (px_var (i := 1))))))
def fn_law_text (K : PySem.W.Frag) : List D → Option D := runP n_law_text ["tiles"] (g_law_text K)
abbrev s_law_ask : Stmt := topS 28
abbrev n_law_ask : List Str := ["what", "value", "error"]
theorem sc_law_ask : FnScope n_law_ask ["what", "value"] (defScope s_law_ask) := ⟨rfl, rfl, rfl, by decide +kernel, rfl, by decide +kernel, by decide +kernel⟩
def g_law_ask (K : PySem.W.Frag) : Pf.S → Option Out := (tryO 2 (fn_law_which K) (selO (fn_format_set K :: (fn_parse_set K :: [])) (slot 0) (pCons (slot 1) pNil)))
theorem raw_law_ask {P : Program} {w : World} {K : PySem.W.Frag} {mg : Str → Option Value} {base : Heap} (T : Top K mg) (I : IsDef K mg "_law_ask" s_law_ask) (D_law_which : DefW P w K mg base 1 "_law_which" (fn_law_which K)) (D_format_set : DefR P w K mg base 5 "format_set" (fn_format_set K)) (D_parse_set : DefR P w K mg base 4 "parse_set" (fn_parse_set K)) : DefP P w K mg base 6 "_law_ask" (runP n_law_ask ["what", "value"] (g_law_ask K)) := by
  have sc := sc_law_ask
  refine def_pure (k := 5) I sc (fun _ _ _ _ _ _ us hl => match us, hl with | [_, _], _ => rfl) (fun f cdv A outer s H E hr => ?_)
  have hu : (A.deeper (PyProof.Rows.envOfC "_law_ask" (defScope s_law_ask) s.heap.objs.size f cdv)).units + 65 < cLine := by have := hr.un; omega
  have hu4 : (A.deeper (PyProof.Rows.envOfC "_law_ask" (defScope s_law_ask) s.heap.objs.size f cdv)).units + 64 < cLine := by omega
  have pw := pwP (X := (cxOf CX0 P w K mg base n_law_ask "_law_ask" (defScope s_law_ask) f cdv A outer s H E).nox)
  have tk := tkP (X := (cxOf CX0 P w K mg base n_law_ask "_law_ask" (defScope s_law_ask) f cdv A outer s H E).nox)
  exact (pms_one (pms_try (i := 2) sc.nd D_law_which (L2H.roomH_of hr) tk ⟨rfl, by decide, .inl T.g_TileError⟩ (cl_law_which T) (fun W pn xe tk pw => (pms_one (pms_retSel (sel_cons D_format_set (sel_cons D_parse_set sel_nil)) hr tk (px_var (i := 0)) (pxa_cons (px_var (i := 1)) pxa_nil))))))
def fn_law_ask (K : PySem.W.Frag) : List D → Option D := runP n_law_ask ["what", "value"] (g_law_ask K)
abbrev s_law : Stmt := topS 29
abbrev n_law : List Str := ["script", "town", "tiles", "text", "k", "bad", "at", "char", "bent", "told", "one"]
theorem sc_law : FnScope n_law ["script"] (defScope s_law) := ⟨rfl, rfl, rfl, by decide +kernel, rfl, by decide +kernel, by decide +kernel⟩
def g_law (K : PySem.W.Frag) : Pf.S → Option Out := (seqO (setV 1 (vLst (pCons (fun _ => some (.int 0)) (pCons (fun _ => some (.int 0)) pNil)))) (seqO (asgO (mO 1 1 (fn_law_set K) (axFl 0 (axOw 1 (axIm (fun _ => some (.int 5)) (fun _ => some []))))) (putS 2)) (seqO (asgO (pur (pA (fn_law_text K) (pCons (slot 2) pNil))) (putS 3)) (seqO (ifO (pur (pOrT (pTest (p2 neD (pA (fn_law_ask K) (pCons (fun _ => some (.int 0)) (pCons (slot 2) pNil))) (slot 3))) (pTest (p2 neD (pA (fn_law_ask K) (pCons (fun _ => some (.int 1)) (pCons (slot 3) pNil))) (slot 2))))) (retO (pur (fun _ => some (.bool false)))) (fun δ => some (.nx δ))) (seqO (forO (pur (pLst range1D (pCons (fun _ => some (.int 8)) pNil))) (putS 4) (seqO (asgO (mO 1 1 (fn_law_draw K) (axFl 0 (axOw 1 (axIm (p2 addD (pA lenD (pCons (slot 3) pNil)) (fun _ => some (.int 1))) (fun _ => some []))))) (putS 6)) (seqO (asgO (mO 1 1 (fn_law_pick K) (axFl 0 (axOw 1 (axIm (pA lstD (pCons (fun _ => some (.str (PySem.Str.ofString ""))) (pCons (fun _ => some (.str (PySem.Str.ofString "a"))) (pCons (fun _ => some (.str (PySem.Str.ofString "1"))) (pCons (fun _ => some (.str (PySem.Str.ofString "4"))) (pCons (fun _ => some (.str (PySem.Str.ofString "5"))) (pCons (fun _ => some (.str (PySem.Str.ofString " "))) (pCons (fun _ => some (.str (PySem.Str.ofString "|"))) (pCons (fun _ => some (.str (PySem.Str.ofString ">"))) (pCons (fun _ => some (.str (PySem.Str.ofString "b"))) (pCons (fun _ => some (.str (PySem.Str.ofString " a1"))) pNil))))))))))) (fun _ => some []))))) (putS 7)) (seqO (asgO (m2 addD (pur (p2 addD (pSl slD (slot 3) (fun _ => some none) (pPart (slot 6))) (slot 7))) (mSl slD (pur (slot 3)) (mPart (m2 addD (pur (slot 6)) (mO 1 1 (fn_law_draw K) (axFl 0 (axOw 1 (axIm (fun _ => some (.int 2)) (fun _ => some []))))))) (ret none))) (putS 8)) (seqO (asgO (pur (pA (fn_law_ask K) (pCons (fun _ => some (.int 1)) (pCons (slot 8) pNil)))) (putS 9)) (ifO (pur (pAndT (pTest (p2 neD (slot 9) (pA tupD (pCons (fun _ => some (.str (PySem.Str.ofString "raised"))) (pCons (fun _ => some (.int 8)) pNil))))) (pOrT (pTest (p2 isNotD (pA (fn_is_set K) (pCons (slot 9) pNil)) (fun _ => some (.bool true)))) (pTest (p2 neD (pA (fn_law_text K) (pCons (slot 9) pNil)) (slot 8)))))) (retO (pur (fun _ => some (.bool false)))) (fun δ => some (.nx δ)))))))) (seqO (setV 5 (vLst (pCons (fun _ => some (.str (PySem.Str.ofString ""))) (pCons (fun _ => some (.str (PySem.Str.ofString " "))) (pCons (fun _ => some (.str (PySem.Str.ofString "a"))) (pCons (fun _ => some (.str (PySem.Str.ofString "a0"))) (pCons (fun _ => some (.str (PySem.Str.ofString "a5"))) (pCons (fun _ => some (.str (PySem.Str.ofString "f1"))) (pCons (fun _ => some (.str (PySem.Str.ofString "a1 a1"))) (pCons (fun _ => some (.str (PySem.Str.ofString "a1  a2"))) (pCons (fun _ => some (.str (PySem.Str.ofString " a1"))) (pCons (fun _ => some (.str (PySem.Str.ofString "a1 "))) (pCons (fun _ => some (.str (PySem.Str.ofString "a1,a2"))) (pCons (fun _ => some (.str (PySem.Str.ofString "a1 |"))) pNil)))))))))))))) (seqO (extO 5 (pA lstD (pCons (fun _ => some (.str (PySem.Str.ofString "a1 | "))) (pCons (fun _ => some (.str (PySem.Str.ofString "a1|a1>a1"))) (pCons (fun _ => some (.str (PySem.Str.ofString "a1 | a1"))) (pCons (fun _ => some (.str (PySem.Str.ofString "a1 | a1>"))) (pCons (fun _ => some .none) (pCons (fun _ => some (.int 5)) pNil)))))))) (seqO (extO 5 (pA lstD (pCons (fun _ => some (.str (PySem.Str.ofString "a1 | a1>a2"))) (pCons (fun _ => some (.str (PySem.Str.ofString "a1 | a1>a1 a1>a1"))) (pCons (fun _ => some (.str (PySem.Str.ofString "a1 | a1>a1>a1"))) (pCons (fun _ => some (.str (PySem.Str.ofString "a1 | a1 > a1"))) (pCons (fun _ => some (.str (PySem.Str.ofString "| a1>a1"))) pNil))))))) (seqO (extO 5 (pA lstD (pCons (fun _ => some (.str (PySem.Str.ofString "a1 a2 a3 a4 b1 b2"))) (pCons (pA lstD (pCons (fun _ => some (.str (PySem.Str.ofString "a1"))) pNil)) pNil)))) (giv 5 (seqO (ifO (pur (pTest (p2 neD (pLc (pIterS (slot 5)) (putS 10) (fun _ => some true) (pA (fn_law_ask K) (pCons (fun _ => some (.int 1)) (pCons (slot 10) pNil))) [10]) (p2 mulD (pA lstD (pCons (pA tupD (pCons (fun _ => some (.str (PySem.Str.ofString "raised"))) (pCons (fun _ => some (.int 8)) pNil))) pNil)) (pA lenD (pCons (slot 5) pNil)))))) (retO (pur (fun _ => some (.bool false)))) (fun δ => some (.nx δ))) (seqO (ifO (pur (pTest (p2 neD (pA (fn_law_ask K) (pCons (fun _ => some (.int 1)) (pCons (fun _ => some (.str (PySem.Str.ofString "a1 b2 | b2>b2 b2>a1"))) pNil))) (pA tupD (pCons (pA tupD (pCons (fun _ => some (.str (PySem.Str.ofString "a1"))) (pCons (fun _ => some (.str (PySem.Str.ofString "b2"))) pNil))) (pCons (pA tupD (pCons (pA tupD (pCons (fun _ => some (.str (PySem.Str.ofString "b2"))) (pCons (fun _ => some (.str (PySem.Str.ofString "b2"))) pNil))) (pCons (pA tupD (pCons (fun _ => some (.str (PySem.Str.ofString "b2"))) (pCons (fun _ => some (.str (PySem.Str.ofString "a1"))) pNil))) pNil))) pNil)))))) (retO (pur (fun _ => some (.bool false)))) (fun δ => some (.nx δ))) (retO (pur (p2 eqD (pLc (pIterS (pA tupD (pCons (fun _ => some .none) (pCons (pA tupD pNil) (pCons (slot 3) (pCons (pA listD (pCons (slot 2) pNil)) (pCons (pSl slD (slot 2) (fun _ => some none) (pPart (fun _ => some (.int 1)))) pNil))))))) (putS 10) (fun _ => some true) (pA (fn_law_ask K) (pCons (fun _ => some (.int 0)) (pCons (slot 10) pNil))) [10]) (p2 mulD (pA lstD (pCons (pA tupD (pCons (fun _ => some (.str (PySem.Str.ofString "raised"))) (pCons (fun _ => some (.int 0)) pNil))) pNil)) (fun _ => some (.int 5))))))))))))))))))
theorem raw_law {P : Program} {w : World} {K : PySem.W.Frag} {mg : Str → Option Value} {base : Heap} {f : Addr} {fd : FuncData} {kws : List (Str × V)} (T : Top K mg) (F : FunD K "law" "law" (defArgs s_law) (defBody s_law) (defScope s_law) [] kws f fd) (D_law_ask : DefP P w K mg base 6 "_law_ask" (fn_law_ask K)) (D_law_draw : DefO P w K mg base 1 "_law_draw" 1 (fn_law_draw K)) (D_law_pick : DefO P w K mg base 2 "_law_pick" 1 (fn_law_pick K)) (D_law_set : DefO P w K mg base 3 "_law_set" 1 (fn_law_set K)) (D_law_text : DefP P w K mg base 1 "_law_text" (fn_law_text K)) (D_is_set : DefP P w K mg base 3 "is_set" (fn_is_set K)) {ok : List Int → Prop} (hl : ∀ l, ok l → (g_law K (Sl.fl l :: List.replicate (n_law.length - 1) .un)).bind outP = some (.bool true)) : FnOk P w K mg base CX0 7 f fd ["script"] (spLw K ok) := by
  have sc := sc_law
  refine def_law (k := 6) F sc (fun cdv A outer s H E hr => ?_) hl
  have hu : (A.deeper (PyProof.Rows.envOfC "law" (defScope s_law) s.heap.objs.size f cdv)).units + 65 < cLine := by have := hr.un; omega
  have hu4 : (A.deeper (PyProof.Rows.envOfC "law" (defScope s_law) s.heap.objs.size f cdv)).units + 64 < cLine := by omega
  have pw := pwP (X := (cxOf CX0 P w K mg base n_law "law" (defScope s_law) f cdv A outer s H E).nox)
  have tk := tkP (X := (cxOf CX0 P w K mg base n_law "law" (defScope s_law) f cdv A outer s H E).nox)
  exact (pms_cons (pms_setV (i := 1) sc.nd (pv_lst (pxa_cons px_int (pxa_cons px_int pxa_nil)))) (pms_cons (pms_set (i := 2) sc.nd (pm_defO (j := 1) D_law_set hr (pax_fl (i := 0) (pax_ow (pax_im px_int pax_nil))))) (pms_cons (pms_set (i := 3) sc.nd (px_def D_law_text hr (pxa_cons (px_var (i := 2)) pxa_nil))) (pms_cons (pms_if (pxt_w (pxw_or (pxt_cmp (op_neD hu4) od_ne (px_def D_law_ask hr (pxa_cons px_int (pxa_cons (px_var (i := 2)) pxa_nil))) (px_var (i := 3)) (nomark _)) (pxw_or1 (pxt_cmp (op_neD hu4) od_ne (px_def D_law_ask hr (pxa_cons px_int (pxa_cons (px_var (i := 3)) pxa_nil))) (px_var (i := 2)) (nomark _))))) (pms_one (pms_ret px_bl)) pms_nil) (pms_cons (pms_for pw rfl (pxi_range1 T.f_range (pxa_cons px_int pxa_nil)) (pmg_name (i := 4) sc.nd) (pms_cons (pms_set (i := 6) sc.nd (pm_defO (j := 1) D_law_draw hr (pax_fl (i := 0) (pax_ow (pax_im (px_add (px_callB cr_len cd_len T.f_len (by decide +kernel) (pxa_cons (px_var (i := 3)) pxa_nil)) px_int) pax_nil))))) (pms_cons (pms_set (i := 7) sc.nd (pm_defO (j := 1) D_law_pick hr (pax_fl (i := 0) (pax_ow (pax_im (px_lst (pxa_cons px_str (pxa_cons px_str (pxa_cons px_str (pxa_cons px_str (pxa_cons px_str (pxa_cons px_str (pxa_cons px_str (pxa_cons px_str (pxa_cons px_str (pxa_cons px_str pxa_nil))))))))))) pax_nil))))) (pms_cons (pms_set (i := 8) sc.nd (pm_add (px_add (px_sl (px_var (i := 3)) pxo_none (pxo_some (px_var (i := 6)))) (px_var (i := 7))) (pm_sl (px_var (i := 3)) (pmo_some (pm_add (px_var (i := 6)) (pm_defO (j := 1) D_law_draw hr (pax_fl (i := 0) (pax_ow (pax_im px_int pax_nil)))))) pmo_none))) (pms_cons (pms_set (i := 9) sc.nd (px_def D_law_ask hr (pxa_cons px_int (pxa_cons (px_var (i := 8)) pxa_nil)))) (pms_one (pms_if (pxt_w (pxw_and (pxt_cmp (op_neD hu4) od_ne (px_var (i := 9)) (px_tup (pxa_cons px_str (pxa_cons px_int pxa_nil))) (nomark _)) (pxw_and1 (pxt_w (pxw_or (pxt_cmp or_isNot od_isNot (px_def D_is_set hr (pxa_cons (px_var (i := 9)) pxa_nil)) px_bl (nomark _)) (pxw_or1 (pxt_cmp (op_neD hu4) od_ne (px_def D_law_text hr (pxa_cons (px_var (i := 9)) pxa_nil)) (px_var (i := 8)) (nomark _)))))))) (pms_one (pms_ret px_bl)) pms_nil))))))) (pms_cons (pms_setV (i := 5) sc.nd (pv_lst (pxa_cons px_str (pxa_cons px_str (pxa_cons px_str (pxa_cons px_str (pxa_cons px_str (pxa_cons px_str (pxa_cons px_str (pxa_cons px_str (pxa_cons px_str (pxa_cons px_str (pxa_cons px_str (pxa_cons px_str pxa_nil)))))))))))))) (pms_cons (pms_extend (i := 5) (px_lst (pxa_cons px_str (pxa_cons px_str (pxa_cons px_str (pxa_cons px_str (pxa_cons px_non (pxa_cons px_int pxa_nil)))))))) (pms_cons (pms_extend (i := 5) (px_lst (pxa_cons px_str (pxa_cons px_str (pxa_cons px_str (pxa_cons px_str (pxa_cons px_str pxa_nil))))))) (pms_cons (pms_extend (i := 5) (px_lst (pxa_cons px_str (pxa_cons (px_lst (pxa_cons px_str pxa_nil)) pxa_nil)))) (pms_giv 5 (pms_cons (pms_if (pxt_cmp (op_neD hu4) od_ne (px_lc [("one", 10)] rfl sc.nd (pxil_seq (px_var (i := 5))) (blkOk_by (own := [("one", 10)]) (N := n_law) (sc := defScope s_law) (by decide +kernel)) keeps_put (fun _ _ _ _ _ => (pcg_name (i := 10) sc.nd)) (fun _ _ _ _ _ => pxts_nil) (fun _ _ _ _ _ => (px_def D_law_ask hr (pxa_cons px_int (pxa_cons (px_var (i := 10)) pxa_nil))))) (px_mul (px_lst (pxa_cons (px_tup (pxa_cons px_str (pxa_cons px_int pxa_nil))) pxa_nil)) (px_callB cr_len cd_len T.f_len (by decide +kernel) (pxa_cons (px_var (i := 5)) pxa_nil))) (nomark _)) (pms_one (pms_ret px_bl)) pms_nil) (pms_cons (pms_if (pxt_cmp (op_neD hu4) od_ne (px_def D_law_ask hr (pxa_cons px_int (pxa_cons px_str pxa_nil))) (px_tup (pxa_cons (px_tup (pxa_cons px_str (pxa_cons px_str pxa_nil))) (pxa_cons (px_tup (pxa_cons (px_tup (pxa_cons px_str (pxa_cons px_str pxa_nil))) (pxa_cons (px_tup (pxa_cons px_str (pxa_cons px_str pxa_nil))) pxa_nil))) pxa_nil))) (nomark _)) (pms_one (pms_ret px_bl)) pms_nil) (pms_one (pms_ret (px_cmp (op_eqD hu4) od_eq (px_lc [("one", 10)] rfl sc.nd (pxil_seq (px_tup (pxa_cons px_non (pxa_cons (px_tup pxa_nil) (pxa_cons (px_var (i := 3)) (pxa_cons (px_callTy call_list_of cd_list T.f_list (by decide +kernel) (pxa_cons (px_var (i := 2)) pxa_nil)) (pxa_cons (px_sl (px_var (i := 2)) pxo_none (pxo_some px_int)) pxa_nil))))))) (blkOk_by (own := [("one", 10)]) (N := n_law) (sc := defScope s_law) (by decide +kernel)) keeps_put (fun _ _ _ _ _ => (pcg_name (i := 10) sc.nd)) (fun _ _ _ _ _ => pxts_nil) (fun _ _ _ _ _ => (px_def D_law_ask hr (pxa_cons px_int (pxa_cons (px_var (i := 10)) pxa_nil))))) (px_mul (px_lst (pxa_cons (px_tup (pxa_cons px_str (pxa_cons px_int pxa_nil))) pxa_nil)) px_int) (nomark _))))))))))))))))
structure Isd (K : PySem.W.Frag) (mg : Str → Option Value) : Prop where
  i_is_tile : IsDef K mg "is_tile" s_is_tile
  i_is_pair : IsDef K mg "is_pair" s_is_pair
  i_is_set : IsDef K mg "is_set" s_is_set
  i_need_set : IsDef K mg "need_set" s_need_set
  i_formatted : IsDef K mg "formatted" s_formatted
  i_format_set : IsDef K mg "format_set" s_format_set
  i_parse_set : IsDef K mg "parse_set" s_parse_set
  i_law_draw : IsDef K mg "_law_draw" s_law_draw
  i_law_pick : IsDef K mg "_law_pick" s_law_pick
  i_law_set : IsDef K mg "_law_set" s_law_set
  i_law_which : IsDef K mg "_law_which" s_law_which
  i_law_text : IsDef K mg "_law_text" s_law_text
  i_law_ask : IsDef K mg "_law_ask" s_law_ask
theorem D_is_tile {P : Program} {w : World} {K : PySem.W.Frag} {mg : Str → Option Value} {base : Heap} (T : Top K mg) (J : Isd K mg) : DefP P w K mg base 1 "is_tile" (fn_is_tile K) := raw_is_tile T J.i_is_tile
theorem D_is_pair {P : Program} {w : World} {K : PySem.W.Frag} {mg : Str → Option Value} {base : Heap} (T : Top K mg) (J : Isd K mg) : DefP P w K mg base 2 "is_pair" (fn_is_pair K) := raw_is_pair T J.i_is_pair (D_is_tile T J)
theorem D_is_set {P : Program} {w : World} {K : PySem.W.Frag} {mg : Str → Option Value} {base : Heap} (T : Top K mg) (J : Isd K mg) : DefP P w K mg base 3 "is_set" (fn_is_set K) := raw_is_set T J.i_is_set (D_is_pair T J) (D_is_tile T J)
theorem D_need_set {P : Program} {w : World} {K : PySem.W.Frag} {mg : Str → Option Value} {base : Heap} (T : Top K mg) (J : Isd K mg) : DefR P w K mg base 4 "need_set" (fn_need_set K) := raw_need_set T J.i_need_set (D_is_set T J)
theorem D_formatted {P : Program} {w : World} {K : PySem.W.Frag} {mg : Str → Option Value} {base : Heap} (T : Top K mg) (J : Isd K mg) : DefP P w K mg base 1 "formatted" (fn_formatted K) := raw_formatted T J.i_formatted
theorem D_format_set {P : Program} {w : World} {K : PySem.W.Frag} {mg : Str → Option Value} {base : Heap} (T : Top K mg) (J : Isd K mg) : DefR P w K mg base 5 "format_set" (fn_format_set K) := raw_format_set T J.i_format_set (D_formatted T J) (D_need_set T J)
theorem D_parse_set {P : Program} {w : World} {K : PySem.W.Frag} {mg : Str → Option Value} {base : Heap} (T : Top K mg) (J : Isd K mg) : DefR P w K mg base 4 "parse_set" (fn_parse_set K) := raw_parse_set T J.i_parse_set (D_formatted T J) (D_is_set T J)
theorem D_law_draw {P : Program} {w : World} {K : PySem.W.Frag} {mg : Str → Option Value} {base : Heap} (T : Top K mg) (J : Isd K mg) : DefO P w K mg base 1 "_law_draw" 1 (fn_law_draw K) := raw_law_draw T J.i_law_draw fnO_hfn
theorem D_law_pick {P : Program} {w : World} {K : PySem.W.Frag} {mg : Str → Option Value} {base : Heap} (T : Top K mg) (J : Isd K mg) : DefO P w K mg base 2 "_law_pick" 1 (fn_law_pick K) := raw_law_pick T J.i_law_pick (D_law_draw T J) fnO_hfn
theorem D_law_set {P : Program} {w : World} {K : PySem.W.Frag} {mg : Str → Option Value} {base : Heap} (T : Top K mg) (J : Isd K mg) : DefO P w K mg base 3 "_law_set" 1 (fn_law_set K) := raw_law_set T J.i_law_set (D_law_draw T J) (D_law_pick T J) fnO_hfn
theorem D_law_which {P : Program} {w : World} {K : PySem.W.Frag} {mg : Str → Option Value} {base : Heap} (T : Top K mg) (J : Isd K mg) : DefW P w K mg base 1 "_law_which" (fn_law_which K) := raw_law_which T J.i_law_which T.ec fnW_dom fnW_hfn
theorem D_law_text {P : Program} {w : World} {K : PySem.W.Frag} {mg : Str → Option Value} {base : Heap} (T : Top K mg) (J : Isd K mg) : DefP P w K mg base 1 "_law_text" (fn_law_text K) := raw_law_text T J.i_law_text
theorem D_law_ask {P : Program} {w : World} {K : PySem.W.Frag} {mg : Str → Option Value} {base : Heap} (T : Top K mg) (J : Isd K mg) : DefP P w K mg base 6 "_law_ask" (fn_law_ask K) := raw_law_ask T J.i_law_ask (D_law_which T J) (D_format_set T J) (D_parse_set T J)
theorem law_ok {P : Program} {w : World} {K : PySem.W.Frag} {mg : Str → Option Value} {base : Heap} {f : Addr} {fd : FuncData} {kws : List (Str × V)} (T : Top K mg) (J : Isd K mg) (F : FunD K "law" "law" (defArgs s_law) (defBody s_law) (defScope s_law) [] kws f fd) {ok : List Int → Prop} (hl : ∀ l, ok l → (g_law K (Sl.fl l :: List.replicate (n_law.length - 1) .un)).bind outP = some (.bool true)) : FnOk P w K mg base CX0 7 f fd ["script"] (spLw K ok) := raw_law T F (D_law_ask T J) (D_law_draw T J) (D_law_pick T J) (D_law_set T J) (D_law_text T J) (D_is_set T J) hl
-- levels: {'is_tile': 1, 'is_pair': 2, 'is_set': 3, 'need_set': 4, 'formatted': 1, 'format_set': 5, 'parse_set': 4, '_law_draw': 1, '_law_pick': 2, '_law_set': 3, '_law_which': 1, '_law_text': 1, '_law_ask': 6, 'law': 7}
end
end Pr

set_option Elab.async false
set_option linter.all false
set_option maxRecDepth 100000
set_option maxHeartbeats 4000000
namespace Pr
open PySem PySem.Spec PyProof.Rows L2 Pf
/-- what isinstance says of the caught errors -/
structure KF (K : PySem.W.Frag) : Prop where
  ve : ∀ C, fw_dom K C → PySem.W.kitOne K (.ref C) (.type "ValueError") = some true
  is0 : ∀ y ∈ ([("InvalidSet" : Str), ("InvalidLength" : Str), ("InvalidLook" : Str), ("InvalidTiling" : Str), ("NoSuchTiling" : Str), ("UnknownTile" : Str), ("Apart" : Str), ("NothingLaid" : Str), ("InvalidFormat" : Str)] : List Str), PySem.W.kitOne K (.ref (xc K "InvalidSet")) (.ref (xc K y)) = some (decide (("InvalidSet" : Str) = y))
  is8 : ∀ y ∈ ([("InvalidSet" : Str), ("InvalidLength" : Str), ("InvalidLook" : Str), ("InvalidTiling" : Str), ("NoSuchTiling" : Str), ("UnknownTile" : Str), ("Apart" : Str), ("NothingLaid" : Str), ("InvalidFormat" : Str)] : List Str), PySem.W.kitOne K (.ref (xc K "InvalidFormat")) (.ref (xc K y)) = some (decide (("InvalidFormat" : Str) = y))
theorem ex_of {K : PySem.W.Frag} (m : exB K = true) : ∀ C, fw_dom K C → ExcC K C ∧ PySem.W.kitOne K (.ref C) (.type "ValueError") = some true := fun C h => by
  unfold exB at m
  rw [List.all_eq_true] at m
  rcases h with rfl | rfl
  · have := m "InvalidSet" (by simp)
    rw [Bool.and_eq_true, Bool.and_eq_true] at this
    exact ⟨excCB_ok this.1, of_decide_eq_true this.2.1⟩
  · have := m "InvalidFormat" (by simp)
    rw [Bool.and_eq_true, Bool.and_eq_true] at this
    exact ⟨excCB_ok this.1, of_decide_eq_true this.2.1⟩
theorem kf_of {K : PySem.W.Frag} (m : exB K = true) : KF K := by
  refine ⟨fun C h => (ex_of m C h).2, fun y hy => ?_, fun y hy => ?_⟩
  · unfold exB at m
    rw [List.all_eq_true] at m
    have := m "InvalidSet" (by simp)
    rw [Bool.and_eq_true, Bool.and_eq_true, List.all_eq_true] at this
    exact of_decide_eq_true (this.2.2 y hy)
  · unfold exB at m
    rw [List.all_eq_true] at m
    have := m "InvalidFormat" (by simp)
    rw [Bool.and_eq_true, Bool.and_eq_true, List.all_eq_true] at this
    exact of_decide_eq_true (this.2.2 y hy)
end Pr

set_option Elab.async false
set_option linter.all false
set_option maxRecDepth 100000
set_option maxHeartbeats 4000000
namespace Pr
open PySem PySem.Spec PyProof.Rows L2 Pf

theorem runP_eq {N ps : List Str} {g : Pf.S → Option Out} {ds : List D} {δ : Pf.S} (h : ds.length = ps.length) (e : initS N ds = δ) : runP N ps g ds = (g δ).bind outP := by
  unfold runP; rw [if_pos h, e]
theorem runR_eq {N ps : List Str} {g : Pf.S → Option Out} {ds : List D} {δ : Pf.S} (h : ds.length = ps.length) (e : initS N ds = δ) : runR N ps g ds = (g δ).bind outR := by
  unfold runR; rw [if_pos h, e]
/-! ### is_tile -/
def tileL : List Nat → Bool
  | [c, k] => decide (c ∈ [97, 98, 99, 100, 101]) && decide (k ∈ [49, 50, 51, 52])
  | _ => false
theorem s_abcde : (PySem.Str.ofString "abcde").cps.toList = [97, 98, 99, 100, 101] := by decide +kernel
theorem s_1234 : (PySem.Str.ofString "1234").cps.toList = [49, 50, 51, 52] := by decide +kernel
theorem eq_int (i j : Int) : eqD (.int i) (.int j) = some (.bool (i == j)) := rfl
theorem ne_int (i j : Int) : neD (.int i) (.int j) = some (.bool (!(i == j))) := rfl
theorem ix_tx0 (c k : Nat) : ixD (.str (tx [c, k])) (.int 0) = some (.str (tx [c])) := rfl
theorem ix_tx1 (c k : Nat) : ixD (.str (tx [c, k])) (.int 1) = some (.str (tx [k])) := rfl
theorem in_one (c : Nat) (z : Str) : inD (.str (tx [c])) (.str z) = some (.bool (decide (c ∈ z.cps.toList))) := rfl
theorem ev_is_tile {K : PySem.W.Frag} (l : List Nat) (h : l.length ≤ sizeLine) : fn_is_tile K [.str (tx l)] = some (.bool (tileL l)) := by
  have hl : (tx l).length ≤ sizeLine := by rw [tx_len]; exact h
  have hlen : lenD [.str (tx l)] = some (.int l.length) := by rw [ev_len_s hl, tx_len]
  unfold fn_is_tile
  rw [runP_eq (δ := [.im (.str (tx l))]) rfl rfl]
  unfold g_is_tile
  simp only [ev_retO, ev_pur, ev_pAnd, ev_p1, ev_p2, ev_pA, ev_pCons, ev_pNil, Option.bind_some, ev_slot0, isi_str (d := .str (tx l)) rfl, isStrD, ev_andT, hlen, eq_int]
  by_cases h2 : l.length = 2
  · match l, h2 with
    | [c, k], _ =>
      simp only [ix_tx0, ix_tx1, Option.bind_some, in_one, s_abcde, s_1234]
      rw [show ((([c, k] : List Nat).length : Int) == 2) = true from rfl, ev_andT, ev_andB]
      unfold tileL
      by_cases h3 : c ∈ [97, 98, 99, 100, 101]
      · simp [h3]
      · simp [h3]
  · have : ((l.length : Int) == 2) = false := by rw [beq_eq_false_iff_ne]; omega
    rw [this, ev_andF]
    have ht : tileL l = false := by
      unfold tileL
      split
      · exact absurd rfl h2
      · rfl
    rw [ht]
    rfl
/-! ### texts within bounds, tuples of texts -/
def okX (l : List Nat) : Prop := l.length ≤ 100000 ∧ ∀ c ∈ l, c < 1114112
abbrev dS (l : List Nat) : D := .str (tx l)
theorem okX.line {l : List Nat} (h : okX l) : l.length ≤ sizeLine := by
  have := h.1
  rw [sizeLine_eq]
  omega
theorem lay_str {l : List Nat} (h : okX l) : PyData.canLay0 (dS l) = true := by
  show PySem.PyData.strOk (tx l) = true
  unfold PySem.PyData.strOk
  rw [Array.all_eq_true']
  intro c hc
  simpa using h.2 c (by simpa using hc)
theorem lay_strs : ∀ {A : List (List Nat)}, (∀ l ∈ A, okX l) → PyData.canLayAll0 (A.map dS) = true
  | [], _ => rfl
  | l :: A, h => by
    simp only [List.map_cons, PyData.canLayAll0, Bool.and_eq_true]
    exact ⟨lay_str (h l (by simp)), lay_strs fun x hx => h x (by simp [hx])⟩
theorem dep_strs : ∀ A : List (List Nat), PyData.depthAll (A.map dS) = 0
  | [] => rfl
  | l :: A => by
    simp only [List.map_cons, PyData.depthAll, dep_strs A]
    rfl
theorem shaped_str {l : List Nat} (h : okX l) : SeqAt.shaped (dS l) = true := by
  unfold SeqAt.shaped
  rw [lay_str h]
  rfl
theorem shaped_strs {A : List (List Nat)} (h : ∀ l ∈ A, okX l) : SeqAt.shaped (.tuple (A.map dS)) = true := by
  unfold SeqAt.shaped
  rw [Bool.and_eq_true]
  refine ⟨lay_strs h, ?_⟩
  simp only [PyData.depth, dep_strs]
  decide
theorem eqv_str (l m : List Nat) : PyData.eqv (dS l) (dS m) = decide (l = m) := by
  show (tx l == tx m) = _
  by_cases h : l = m
  · simp [h]
  · simp [h]
theorem any_strs (A : List (List Nat)) (l : List Nat) : (A.map dS).any (fun z => PyData.eqv z (dS l)) = decide (l ∈ A) := by
  rw [List.any_map]
  induction A with
  | nil => simp
  | cons a A ih =>
    rw [List.any_cons, ih]
    simp only [Function.comp, eqv_str]
    by_cases h1 : a = l
    · simp [h1]
    · by_cases h2 : l ∈ A <;> simp [h1, h2, Ne.symm h1, eq_comm]
theorem inB_tup (l : List Nat) (ds : List D) : inB (dS l) (.tuple ds) = if SeqAt.shaped (dS l) && SeqAt.shaped (.tuple ds) then some (ds.any fun z => PyData.eqv z (dS l)) else none := by
  match l with
  | [] => rfl
  | [_] => rfl
  | _ :: _ :: _ => rfl
theorem inB_lst (l : List Nat) (ds : List D) : inB (dS l) (.list ds) = if SeqAt.shaped (dS l) && SeqAt.shaped (.list ds) then some (ds.any fun z => PyData.eqv z (dS l)) else none := by
  match l with
  | [] => rfl
  | [_] => rfl
  | _ :: _ :: _ => rfl
theorem in_strs {A : List (List Nat)} {l : List Nat} (hA : ∀ x ∈ A, okX x) (hl : okX l) : inD (dS l) (.tuple (A.map dS)) = some (.bool (decide (l ∈ A))) := by
  unfold inD
  rw [inB_tup, shaped_str hl, shaped_strs hA, any_strs]
  rfl
/-! ### is_pair -/
def pairB (A : List (List Nat)) (ws : List (List Nat)) : Bool := decide (ws.length = 2) && ws.all fun l => tileL l && decide (l ∈ A)
theorem ev_is_pair {K : PySem.W.Frag} (A ws : List (List Nat)) (hA : ∀ x ∈ A, okX x) (hw : ∀ x ∈ ws, okX x) : fn_is_pair K [.tuple (ws.map dS), .tuple (A.map dS)] = some (.bool (pairB A ws)) := by
  unfold fn_is_pair
  rw [runP_eq (δ := [.im (.tuple (ws.map dS)), .im (.tuple (A.map dS)), .un]) rfl rfl]
  unfold g_is_pair
  simp only [ev_seqO, ev_ifO, ev_pur, ev_pOrT, ev_pNotT, ev_pTest, ev_p1, ev_p2, ev_pA, ev_pCons, ev_pNil, ev_slot0, Option.bind_some, isi_tup (d := .tuple (ws.map dS)) rfl, isTupD, ev_testB, Option.map_some, Bool.not_true, Bool.false_eq_true, if_false, ev_len_t, ne_int, List.length_map]
  by_cases h2 : ws.length = 2
  · have e1 : ((ws.length : Int) == 2) = true := by rw [h2]; rfl
    rw [e1]
    simp only [Bool.not_true, Bool.false_eq_true, if_false, Option.bind_some, ev_thenNx, ev_retO, ev_pur, ev_pA, ev_pCons, ev_pNil, ev_pLc, ev_pIterS, ev_slot0, ev_iterS_t, ev_wipe1, ev_wipe0, ev_noOw1, ev_noOw0, List.getElem?_cons_succ, List.getElem?_cons_zero, Bool.and_self, if_true]
    rw [lc_map (fun d => .bool (match d with | .str z => tileL z.cps.toList && decide (z.cps.toList ∈ A) | _ => false))]
    · simp only [List.map_map, Option.bind_some]
      have : (ws.map ((fun d => (.bool (match d with | .str z => tileL z.cps.toList && decide (z.cps.toList ∈ A) | _ => false) : D)) ∘ dS)) = ws.map fun l => .bool (tileL l && decide (l ∈ A)) := by
        apply List.map_congr_left
        intro l _
        simp [Function.comp]
      rw [this]
      simp only [all_map, Option.bind_some, Option.map_some, ev_outRt]
      unfold pairB
      rw [decide_eq_true h2]
      rfl
    · intro d hd
      obtain ⟨l, hl, rfl⟩ := List.mem_map.mp hd
      have hx := hw l hl
      simp only [List.set_cons_succ, List.set_cons_zero, ev_pAnd, ev_pA, ev_pCons, ev_pNil, ev_p2, ev_slot2, ev_slot1, ev_slot0, Option.bind_some, ev_is_tile l hx.line, in_strs hA hx, ev_andB]
      cases tileL l <;> simp
  · have e1 : ((ws.length : Int) == 2) = false := by rw [beq_eq_false_iff_ne]; omega
    rw [e1]
    unfold pairB
    rw [decide_eq_false h2]
    rfl
/-! ### is_set -/
abbrev dP (ws : List (List Nat)) : D := .tuple (ws.map dS)
abbrev dT (A : List (List Nat)) (B : List (List (List Nat))) : D := .tuple [.tuple (A.map dS), .tuple (B.map dP)]
def nodS (A : List (List Nat)) : Bool := decide ((many (A.map tx) []).length = A.length)
def nodP (B : List (List (List Nat))) : Bool := decide ((many (B.map fun ws => ws.map tx) []).length = B.length)
def setB (A : List (List Nat)) (B : List (List (List Nat))) : Bool := decide (1 ≤ A.length ∧ A.length ≤ 5) && (A.all tileL && (nodS A && (decide (B.length ≤ 12) && (B.all (pairB A) && nodP B))))
theorem lens_S {A : List (List Nat)} (h : A.length < 64) : lensetD (.tuple (A.map dS)) = some (.int (many (A.map tx) []).length) := by
  unfold lensetD
  dsimp only
  rw [List.length_map, if_pos h]
  have : keysS (A.map dS) = some (A.map tx) := strs_map tx A
  rw [this]
theorem keysT_P : ∀ B : List (List (List Nat)), keysT (B.map dP) = some (B.map fun ws => ws.map tx)
  | [] => rfl
  | ws :: B => by
    rw [List.map_cons]
    unfold keysT
    have : strL (dP ws) = some (ws.map tx) := strs_map tx ws
    rw [this, keysT_P B]
    rfl
theorem lens_P {B : List (List (List Nat))} (h : B.length < 64) : lensetD (.tuple (B.map dP)) = some (.int (many (B.map fun ws => ws.map tx) []).length) := by
  unfold lensetD
  dsimp only
  rw [List.length_map, if_pos h, keysT_P]
  cases B with
  | nil => rfl
  | cons ws B => rfl
theorem ev_is_set {K : PySem.W.Frag} (A : List (List Nat)) (B : List (List (List Nat))) (hA : ∀ x ∈ A, okX x) (hB : ∀ ws ∈ B, ∀ x ∈ ws, okX x) : fn_is_set K [dT A B] = some (.bool (setB A B)) := by
  unfold fn_is_set
  rw [runP_eq (δ := [.im (dT A B), .un, .un, .un, .un, .un]) rfl rfl]
  unfold g_is_set
  simp only [ev_seqO, ev_ifO, ev_pur, ev_pOrT, ev_pNotT, ev_pTest, ev_p1, ev_p2, ev_pA, ev_pCons, ev_pNil, ev_slot0, Option.bind_some, isi_tup (d := dT A B) rfl, isTupD, ev_testB, Option.map_some, Bool.not_true, Bool.false_eq_true, if_false, ev_len_t, ne_int, List.length_cons, List.length_nil]
  rw [show ((((0 + 1 + 1 : Nat) : Int)) == 2) = true from rfl]
  have all2 : allD [.list [.bool true, .bool true]] = some (.bool true) := rfl
  simp only [Bool.not_true, Bool.false_eq_true, if_false, ev_pLc, ev_pIterS, ev_slot0, ev_iterS_t, ev_wipe1, ev_wipe0, ev_noOw1, ev_noOw0, List.getElem?_cons_succ, List.getElem?_cons_zero, Bool.and_self, if_true, Option.bind_some, List.set_cons_succ, List.set_cons_zero, lcP, ev_putS, ev_p1, ev_slot4, isi_tup (d := .tuple (A.map dS)) rfl, isi_tup (d := .tuple (B.map dP)) rfl, isTupD, all2, ev_testB, Option.map_some, ev_thenNx, ev_asgO, ev_tupT, ev_gsCons, ev_gsNil, ev_pur, ev_slot0,
    ev_ifO, ev_pOrT, ev_pNotT, ev_pTest, ev_pChain, ev_pA, ev_pCons, ev_pNil, ev_slot1, ev_slot2, ev_slot3, ev_slot5, ev_len_t, List.length_map, ev_seqO]
  have le1 : ∀ i j : Int, leD (.int i) (.int j) = some (.bool (decide (i ≤ j))) := fun _ _ => rfl
  simp only [le1, Option.bind_some]
  by_cases c1 : 1 ≤ A.length ∧ A.length ≤ 5
  · have h1 : decide ((1 : Int) ≤ (A.length : Int)) = true := decide_eq_true (by omega)
    have h5 : decide ((A.length : Int) ≤ 5) = true := decide_eq_true (by omega)
    rw [h1, h5]
    simp only [ev_chT, Option.bind_some, ev_testB, Option.map_some, Bool.not_true, Bool.false_eq_true, if_false]
    rw [lc_map (fun d => .bool (match d with | .str z => tileL z.cps.toList | _ => false)) (fun d hd => by
      obtain ⟨l, hl, rfl⟩ := List.mem_map.mp hd
      simp only [List.set_cons_succ, List.set_cons_zero, ev_pA, ev_pCons, ev_pNil, ev_slot5, ev_slot0, Option.bind_some, ev_is_tile l (hA l hl).line])]
    have e2 : ((A.map dS).map fun d => (.bool (match d with | .str z => tileL z.cps.toList | _ => false) : D)) = A.map fun l => .bool (tileL l) := by
      rw [List.map_map]
      exact List.map_congr_left fun l _ => by simp [Function.comp]
    rw [e2]
    simp only [Option.bind_some, all_map, ev_testB, Option.map_some]
    cases c2 : A.all tileL with
    | false =>
      simp [setB, c1, c2]
    | true =>
      simp only [Bool.not_true, Bool.false_eq_true, if_false, ev_p2, ev_p1, ev_slot1, ev_slot0, Option.bind_some, lens_S (A := A) (by omega), ne_int, ev_testB, ev_pA, ev_pCons, ev_pNil, ev_len_t, List.length_map]
      have e3 : (((many (A.map tx) []).length : Int) == (A.length : Int)) = nodS A := by
        unfold nodS
        by_cases q : (many (A.map tx) []).length = A.length
        · rw [q]; simp
        · rw [decide_eq_false q, beq_eq_false_iff_ne]; omega
      rw [e3]
      cases c3 : nodS A with
      | false => simp [setB, c1, c2, c3]
      | true =>
        simp only [Bool.not_true, Bool.false_eq_true, if_false, Option.bind_some, Option.map_some, ev_thenNx, ev_retO, ev_pur, ev_pAnd, ev_p2, ev_pA, ev_pCons, ev_pNil, ev_slot2, ev_slot0, ev_len_t, List.length_map, le1]
        by_cases c4 : B.length ≤ 12
        · have h4 : decide ((B.length : Int) ≤ 12) = true := decide_eq_true (by omega)
          rw [h4]
          simp only [ev_andT, ev_pLc, ev_pIterS, ev_slot2, ev_slot0, ev_iterS_t, ev_wipe1, ev_wipe0, ev_noOw1, ev_noOw0, List.getElem?_cons_succ, List.getElem?_cons_zero, Bool.and_self, if_true, Option.bind_some, List.set_cons_succ, List.set_cons_zero]
          rw [lc_mapG (δ1 := fun d => [.im (dT A B), .im (.tuple (A.map dS)), .im (.tuple (B.map dP)), .im d, .un, .un]) (fun d => .bool (match d with | .tuple ds => pairB A (ds.map fun x => match x with | .str z => z.cps.toList | _ => []) | _ => false)) (fun d hd => rfl) (fun d hd => by
            obtain ⟨ws, hw, rfl⟩ := List.mem_map.mp hd
            simp only [ev_pA, ev_pCons, ev_pNil, ev_slot3, ev_slot1, ev_slot0, Option.bind_some, ev_is_pair A ws hA (hB ws hw), List.map_map]
            congr 3
            exact ((List.map_congr_left fun l _ => by simp [Function.comp]).trans (List.map_id ws)).symm)]
          have e5 : ((B.map dP).map fun d => (.bool (match d with | .tuple ds => pairB A (ds.map fun x => match x with | .str z => z.cps.toList | _ => []) | _ => false) : D)) = B.map fun ws => .bool (pairB A ws) := by
            rw [List.map_map]
            refine List.map_congr_left fun ws _ => ?_
            simp only [Function.comp, List.map_map]
            congr 2
            exact (List.map_congr_left fun l _ => by simp [Function.comp]).trans (List.map_id ws)
          rw [e5]
          simp only [Option.bind_some, all_map, ev_andB]
          have e6 : (((many (B.map fun ws => ws.map tx) []).length : Int) == (B.length : Int)) = nodP B := by
            unfold nodP
            by_cases q : (many (B.map fun ws => ws.map tx) []).length = B.length
            · rw [q]; simp
            · rw [decide_eq_false q, beq_eq_false_iff_ne]; omega
          simp only [ev_p1, ev_slot2, ev_slot0, Option.bind_some, lens_P (B := B) (by omega), eq_int, e6]
          cases c5 : B.all (pairB A) <;> simp [setB, c1, c2, c3, c4, c5]
        · have h4 : decide ((B.length : Int) ≤ 12) = false := decide_eq_false (by omega)
          rw [h4]
          simp [setB, c1, c2, c3, c4]
  · have hq : (chD (some (.bool (decide ((A.length : Int) ≤ 5)))) (.bool (decide ((1 : Int) ≤ (A.length : Int))))).bind testD = some false := by
      by_cases q : 1 ≤ A.length
      · have h1 : decide ((1 : Int) ≤ (A.length : Int)) = true := decide_eq_true (by omega)
        have h5 : decide ((A.length : Int) ≤ 5) = false := decide_eq_false (by omega)
        rw [h1, h5]; rfl
      · have h1 : decide ((1 : Int) ≤ (A.length : Int)) = false := decide_eq_false (by omega)
        rw [h1]; rfl
    rw [hq]
    simp [setB, c1]
end Pr

set_option Elab.async false
set_option linter.all false
set_option maxRecDepth 100000
set_option maxHeartbeats 4000000
namespace Pr
open PySem PySem.Spec PyProof.Rows L2 Pf

/-! ### texts of sets -/
abbrev pr (p : List Nat × List Nat) : List (List Nat) := [p.1, p.2]
abbrev dQ (p : List Nat × List Nat) : D := .tuple [dS p.1, dS p.2]
abbrev dU (A : List (List Nat)) (B : List (List Nat × List Nat)) : D := .tuple [.tuple (A.map dS), .tuple (B.map dQ)]
theorem dU_eq (A : List (List Nat)) (B : List (List Nat × List Nat)) : dU A B = dT A (B.map pr) := by
  show PyData.tuple [_, PyData.tuple (B.map dQ)] = PyData.tuple [_, PyData.tuple ((B.map pr).map dP)]
  rw [List.map_map]
  rfl
def pairT (p : List Nat × List Nat) : List Nat := 32 :: (p.1 ++ 62 :: p.2)
def fmtL (A : List (List Nat)) (B : List (List Nat × List Nat)) : List Nat := joinL 32 A ++ (if B.isEmpty then [] else 32 :: 124 :: (B.map pairT).flatten)
structure Small (A : List (List Nat)) (B : List (List Nat × List Nat)) : Prop where
  a : ∀ x ∈ A, x.length = 2
  n : A.length ≤ 5
  b : ∀ p ∈ B, p.1.length = 2 ∧ p.2.length = 2
  m : B.length ≤ 12
theorem join_eq (sep : Str) (l : List Str) : Txt.join sep l = Str.join sep l := eq_of_beq (PyProof.Rows.join_plain_closes sep l)
theorem joinE : ∀ P : List (List Nat), Str.join (tx []) (P.map tx) = tx P.flatten
  | [] => rfl
  | [x] => by simp [Str.join]
  | x :: y :: r => by
    show tx x ++ tx [] ++ Str.join (tx []) ((y :: r).map tx) = _
    rw [joinE (y :: r), tx_app, tx_app]
    simp
theorem sum_len : ∀ {P : List (List Nat)} {k : Nat}, (∀ x ∈ P, x.length ≤ k) → ((P.map tx).map (·.length)).sum ≤ P.length * k
  | [], _, _ => by simp
  | x :: P, k, h => by
    have := sum_len (P := P) (k := k) fun y hy => h y (by simp [hy])
    have h1 := h x (by simp)
    simp only [List.map_cons, List.sum_cons, tx_len, List.length_cons]
    have e : (P.length + 1) * k = P.length * k + k := by rw [Nat.add_mul, Nat.one_mul]
    omega
theorem flat_len : ∀ {P : List (List Nat)} {k : Nat}, (∀ x ∈ P, x.length ≤ k) → P.flatten.length ≤ P.length * k
  | [], _, _ => by simp
  | x :: P, k, h => by
    have := flat_len (P := P) (k := k) fun y hy => h y (by simp [hy])
    have h1 := h x (by simp)
    simp only [List.flatten_cons, List.length_append, List.length_cons]
    have e : (P.length + 1) * k = P.length * k + k := by rw [Nat.add_mul, Nat.one_mul]
    omega
theorem join_ev (s : List Nat) (P : List (List Nat)) {k : Nat} (hk : ∀ x ∈ P, x.length ≤ k) (hb : P.length * k + P.length * s.length ≤ 16777216) : strOnly joinD (dS s) [.tuple (P.map dS)] = some (.str (Str.join (tx s) (P.map tx))) := by
  show joinD (dS s) [.tuple (P.map dS)] = _
  unfold joinD
  dsimp only
  have e : strsOf (P.map dS) = some (P.map tx) := strs_map tx P
  rw [e, Option.bind_some, if_pos, join_eq]
  rw [tx_len, List.length_map]
  have := sum_len hk
  omega
theorem join_evL (s : List Nat) (P : List (List Nat)) {k : Nat} (hk : ∀ x ∈ P, x.length ≤ k) (hb : P.length * k + P.length * s.length ≤ 16777216) : strOnly joinD (dS s) [.list (P.map dS)] = some (.str (Str.join (tx s) (P.map tx))) := by
  show joinD (dS s) [.list (P.map dS)] = _
  unfold joinD
  dsimp only
  have e : strsOf (P.map dS) = some (P.map tx) := strs_map tx P
  rw [e, Option.bind_some, if_pos, join_eq]
  rw [tx_len, List.length_map]
  have := sum_len hk
  omega
theorem add_str {l m : List Nat} (h : l.length + m.length ≤ 16777216) : addD (dS l) (dS m) = some (dS (l ++ m)) := by
  show (if (tx l).length + (tx m).length ≤ sizeLine then some (PyData.str (tx l ++ tx m)) else none) = _
  rw [tx_len, tx_len, sizeLine_eq, if_pos h, tx_app]
theorem iadd_str {l m : List Nat} (h : l.length + m.length ≤ 16777216) : iaddD (dS l) (dS m) = some (dS (l ++ m)) := by
  show (if (tx l).length + (tx m).length ≤ sizeLine then some (PyData.str (tx l ++ tx m)) else none) = _
  rw [tx_len, tx_len, sizeLine_eq, if_pos h, tx_app]
theorem c_sp : PySem.Str.ofString " " = tx [32] := by decide +kernel
theorem c_bar : PySem.Str.ofString " |" = tx [32, 124] := by decide +kernel
theorem c_bar2 : PySem.Str.ofString " | " = tx [32, 124, 32] := by decide +kernel
theorem c_nil : PySem.Str.ofString "" = tx [] := by decide +kernel
theorem c_gt : PySem.Str.ofString ">" = tx [62] := by decide +kernel
theorem ix2_0 (x y : D) : ixD (.tuple [x, y]) (.int 0) = some x := rfl
theorem ix2_1 (x y : D) : ixD (.tuple [x, y]) (.int 1) = some y := rfl
theorem joinL_len : ∀ {P : List (List Nat)} {k : Nat}, (∀ x ∈ P, x.length ≤ k) → (joinL 32 P).length ≤ P.length * (k + 1)
  | [], _, _ => by simp [joinL]
  | [x], k, h => by have := h x (by simp); simp [joinL]; omega
  | x :: y :: r, k, h => by
    have := joinL_len (P := y :: r) (k := k) fun z hz => h z (by simp [hz])
    have h1 := h x (by simp)
    simp only [joinL, List.length_append, List.length_cons] at this ⊢
    have e : (r.length + 1 + 1) * (k + 1) = (r.length + 1) * (k + 1) + (k + 1) := by rw [Nat.add_mul, Nat.one_mul]
    omega
theorem ne_tup (x : D) (l : List D) (h : SeqAt.shaped (.tuple (x :: l)) = true) : neD (.tuple (x :: l)) (.tuple []) = some (.bool true) := by
  unfold neD
  rw [h]
  rfl
theorem lay_pairs : ∀ {B : List (List Nat × List Nat)}, (∀ p ∈ B, okX p.1 ∧ okX p.2) → PyData.canLayAll0 (B.map dQ) = true
  | [], _ => rfl
  | p :: B, h => by
    simp only [List.map_cons, PyData.canLayAll0, Bool.and_eq_true, dQ, PyData.canLay0]
    exact ⟨⟨lay_str (h p (by simp)).1, lay_str (h p (by simp)).2, trivial⟩, lay_pairs fun x hx => h x (by simp [hx])⟩
theorem dep_pairs : ∀ B : List (List Nat × List Nat), PyData.depthAll (B.map dQ) ≤ 1
  | [] => by simp [PyData.depthAll]
  | p :: B => by
    have := dep_pairs B
    have e : PyData.depth (dQ p) = 1 := rfl
    simp only [List.map_cons, PyData.depthAll, e]
    omega
theorem shaped_pairs {B : List (List Nat × List Nat)} (h : ∀ p ∈ B, okX p.1 ∧ okX p.2) : SeqAt.shaped (.tuple (B.map dQ)) = true := by
  unfold SeqAt.shaped
  rw [Bool.and_eq_true]
  refine ⟨lay_pairs h, ?_⟩
  have := dep_pairs B
  exact decide_eq_true (by show PyData.depthAll (B.map dQ) + 1 ≤ 64; omega)
theorem ev_formatted {K : PySem.W.Frag} {A : List (List Nat)} {B : List (List Nat × List Nat)} (h : Small A B) (hB : ∀ p ∈ B, okX p.1 ∧ okX p.2) : fn_formatted K [dU A B] = some (dS (fmtL A B)) := by
  have hA2 : ∀ x ∈ A, x.length ≤ 2 := fun x hx => Nat.le_of_eq (h.a x hx)
  have hn := h.n
  have hm := h.m
  have hjl := joinL_len hA2
  unfold fn_formatted
  rw [runP_eq (δ := [.im (dU A B), .un, .un, .un]) rfl rfl]
  unfold g_formatted
  simp only [c_sp, c_bar, c_nil, c_gt]
  simp only [ev_seqO, ev_asgO, ev_pur, ev_p2, ev_slot0, Option.bind_some, ix2_0, join_ev [32] A hA2 (by simp; omega), joinS, Option.map_some, ev_putS, List.set_cons_succ, List.set_cons_zero, ev_thenNx, ev_ifO, ev_pTest, ix2_1, ev_pA, ev_pNil]
  rw [show tupD [] = some (.tuple []) from rfl, Option.bind_some]
  cases B with
  | nil =>
    rw [show neD (.tuple (([] : List (List Nat × List Nat)).map dQ)) (.tuple []) = some (.bool false) from rfl]
    simp [fmtL]
  | cons p B =>
    rw [List.map_cons, ne_tup _ _ (by rw [← List.map_cons]; exact shaped_pairs hB)]
    simp only [Option.bind_some, ev_testB, Option.map_some, if_true, ev_augO, ev_slot1, ev_slot0, ev_pur, ev_p2, ix2_1, ev_pLc, ev_pIterS, ev_iterS_t, ev_wipe1, ev_wipe0, ev_noOw1, ev_noOw0, List.getElem?_cons_succ, List.getElem?_cons_zero, Bool.and_self, List.set_cons_succ, List.set_cons_zero]
    rw [lc_mapG (δ1 := fun d => match d with | .tuple [x, y] => [.im (dU A (p :: B)), .im (dS (joinL 32 A)), .im x, .im y] | _ => []) (fun d => match d with | .tuple [.str x, .str y] => dS (pairT (x.cps.toList, y.cps.toList)) | _ => .none) (fun d hd => by
        obtain ⟨q, hq, rfl⟩ := List.mem_map.mp hd
        rfl) (fun d hd => by
        obtain ⟨q, hq, rfl⟩ := List.mem_map.mp hd
        have hq2 := h.b q hq
        simp only [ev_p2, ev_slot2, ev_slot3, ev_slot0, Option.bind_some]
        rw [add_str (by simp [hq2]), Option.bind_some, add_str (by simp [hq2]), Option.bind_some, add_str (by simp [hq2])]
        simp [pairT])]
    have e5 : (((p :: B).map dQ).map fun d => (match d with | .tuple [.str x, .str y] => dS (pairT (x.cps.toList, y.cps.toList)) | _ => .none : D)) = ((p :: B).map pairT).map dS := by
      rw [List.map_map, List.map_map]
      exact List.map_congr_left fun q _ => by simp [Function.comp]
    rw [e5]
    have h6 : ∀ x ∈ (p :: B).map pairT, x.length ≤ 6 := fun x hx => by
      obtain ⟨q, hq, rfl⟩ := List.mem_map.mp hx
      have hq2 := h.b q hq
      simp [pairT, hq2]
    have hfl := flat_len h6
    rw [List.length_map] at hfl
    simp only [Option.bind_some]
    rw [join_evL [] ((p :: B).map pairT) h6 (by simp at hm ⊢; omega), joinE, Option.bind_some, add_str (by simp at hfl hm ⊢; omega)]
    simp only [Option.map_some, Option.bind_some]
    rw [iadd_str (by simp at hfl hm hjl ⊢; omega)]
    simp [fmtL]
/-! ### _law_text -/
theorem text_loop (V : D) : ∀ (B : List (List Nat × List Nat)) (acc : List Nat) (s2 s3 : Sl), (∀ p ∈ B, p.1.length = 2 ∧ p.2.length = 2) → acc.length + B.length * 6 ≤ 10000 →
    ∃ s2' s3', forD (tupT (gsCons (putS 2) (gsCons (putS 3) gsNil))) (asgO (pur (p2 addD (p2 addD (p2 addD (p2 addD (slot 1) (fun _ => some (.str (tx [32])))) (slot 2)) (fun _ => some (.str (tx [62])))) (slot 3))) (putS 1)) (B.map dQ) [.im V, .im (dS acc), s2, s3] =
      some (.nx [.im V, .im (dS (acc ++ (B.map pairT).flatten)), s2', s3'])
  | [], acc, s2, s3, _, _ => ⟨s2, s3, by simp [forD]⟩
  | p :: B, acc, s2, s3, h, hl => by
    have hp := h p (by simp)
    simp only [List.length_cons] at hl
    obtain ⟨t2, t3, e⟩ := text_loop V B (acc ++ pairT p) (.im (dS p.1)) (.im (dS p.2)) (fun q hq => h q (by simp [hq])) (by simp [pairT, hp]; omega)
    refine ⟨t2, t3, ?_⟩
    rw [List.map_cons]
    unfold forD
    rw [show tupT (gsCons (putS 2) (gsCons (putS 3) gsNil)) (dQ p) [.im V, .im (dS acc), s2, s3] = some [.im V, .im (dS acc), .im (dS p.1), .im (dS p.2)] from rfl]
    dsimp only
    simp only [ev_asgO, ev_pur, ev_p2, ev_slot1, ev_slot2, ev_slot3, ev_slot0, Option.bind_some]
    rw [add_str (by simp; omega), Option.bind_some, add_str (by simp [hp]; omega), Option.bind_some, add_str (by simp [hp]; omega), Option.bind_some, add_str (by simp [hp]; omega)]
    simp only [Option.map_some, Option.bind_some, ev_putS, List.set_cons_succ, List.set_cons_zero]
    have e2 : acc ++ [32] ++ p.1 ++ [62] ++ p.2 = acc ++ pairT p := by simp [pairT]
    rw [e2]
    rw [e]
    simp
theorem ev_law_text {K : PySem.W.Frag} {A : List (List Nat)} {B : List (List Nat × List Nat)} (h : Small A B) (hB : ∀ p ∈ B, okX p.1 ∧ okX p.2) : fn_law_text K [dU A B] = some (dS (fmtL A B)) := by
  have hA2 : ∀ x ∈ A, x.length ≤ 2 := fun x hx => Nat.le_of_eq (h.a x hx)
  have hn := h.n
  have hm := h.m
  have hjl := joinL_len hA2
  unfold fn_law_text
  rw [runP_eq (δ := [.im (dU A B), .un, .un, .un]) rfl rfl]
  unfold g_law_text
  simp only [c_sp, c_bar, c_nil, c_gt]
  simp only [ev_seqO, ev_asgO, ev_pur, ev_p2, ev_slot0, Option.bind_some, ix2_0, join_ev [32] A hA2 (by simp; omega), joinS, Option.map_some, ev_putS, List.set_cons_succ, List.set_cons_zero, ev_thenNx, ev_ifO, ev_pTest, ix2_1, ev_pA, ev_pNil]
  rw [show tupD [] = some (.tuple []) from rfl, Option.bind_some]
  cases B with
  | nil =>
    rw [show neD (.tuple (([] : List (List Nat × List Nat)).map dQ)) (.tuple []) = some (.bool false) from rfl]
    simp [fmtL]
  | cons p B =>
    rw [List.map_cons, ne_tup _ _ (by rw [← List.map_cons]; exact shaped_pairs hB)]
    simp only [Option.bind_some, ev_testB, Option.map_some, if_true, ev_slot1, ev_slot0]
    rw [add_str (by simp; omega)]
    simp only [Option.map_some, Option.bind_some, ev_putS, List.set_cons_succ, List.set_cons_zero, ev_thenNx, ev_forO, ev_pur, ev_pIter, ev_p2, ev_slot0, ix2_1, ev_iterD_t]
    obtain ⟨t2, t3, e⟩ := text_loop (dU A (p :: B)) (p :: B) (joinL 32 A ++ [32, 124]) .un .un h.b (by simp at hm ⊢; omega)
    rw [e]
    simp [fmtL]
/-! ### need_set, format_set -/
theorem ev_need {K : PySem.W.Frag} {d : D} {b : Bool} (h : fn_is_set K [d] = some (.bool b)) : fn_need_set K [d] = some (if b then .ok .none else .error (xc K "InvalidSet")) := by
  unfold fn_need_set
  rw [runR_eq (δ := [.im d]) rfl rfl]
  unfold g_need_set
  simp only [ev_ifO, ev_pur, ev_pNotT, ev_pTest, ev_pA, ev_pCons, ev_pNil, ev_slot0, Option.bind_some, h, ev_testB, Option.map_some]
  cases b <;> rfl
theorem ev_format_no {K : PySem.W.Frag} {d : D} (h : fn_is_set K [d] = some (.bool false)) : fn_format_set K [d] = some (.error (xc K "InvalidSet")) := by
  unfold fn_format_set
  rw [runR_eq (δ := [.im d]) rfl rfl]
  unfold g_format_set
  simp only [ev_seqO, callRO, ev_pCons, ev_pNil, ev_slot0, Option.bind_some, ev_need h]
  rfl
theorem ev_format {K : PySem.W.Frag} {d t : D} (h : fn_is_set K [d] = some (.bool true)) (ht : fn_formatted K [d] = some t) : fn_format_set K [d] = some (.ok t) := by
  unfold fn_format_set
  rw [runR_eq (δ := [.im d]) rfl rfl]
  unfold g_format_set
  simp only [ev_seqO, callRO, ev_pCons, ev_pNil, ev_slot0, Option.bind_some, ev_need h, if_true, ev_thenNx, ev_retO, ev_pur, ev_pA, ht, Option.map_some, ev_outRRt]
end Pr

set_option Elab.async false
set_option linter.all false
set_option maxRecDepth 100000
set_option maxHeartbeats 4000000
namespace Pr
open PySem PySem.Spec PyProof.Rows L2 Pf

/-! ### parse_set -/
def splL (c : Nat) (m : List Nat) : List (List Nat) := (Txt.split (tx m) (tx [c])).map fun x => x.cps.toList
theorem splL_tx (c : Nat) (m : List Nat) : (splL c m).map tx = Txt.split (tx m) (tx [c]) := by
  unfold splL
  rw [List.map_map]
  exact (List.map_congr_left fun x _ => (tx_of x).symm).trans (List.map_id _)
theorem splL_join (c : Nat) (m : List Nat) : joinL c (splL c m) = m := by
  have := StrLaws.join_split (tx m) (tx [c])
  rw [← splL_tx, joinS] at this
  have := congrArg (fun z : Str => z.cps.toList) this
  simpa using this
theorem splL_uniq {c : Nat} {Q : List (List Nat)} (hQ : Q ≠ []) (hq : ∀ x ∈ Q, c ∉ x) : splL c (joinL c Q) = Q := by
  unfold splL
  rw [split_uniq c Q hQ hq, List.map_map]
  exact (List.map_congr_left fun x _ => by simp [Function.comp]).trans (List.map_id _)
theorem joinL_sub (c : Nat) : ∀ (P : List (List Nat)) (x : List Nat), x ∈ P → x.length ≤ (joinL c P).length ∧ ∀ k ∈ x, k ∈ joinL c P
  | [], x, h => by simp at h
  | [y], x, h => by
    simp only [List.mem_singleton] at h
    subst h
    simp [joinL]
  | y :: z :: r, x, h => by
    have ih := joinL_sub c (z :: r) x
    simp only [joinL]
    rcases List.mem_cons.mp h with rfl | h
    · exact ⟨by simp, fun k hk => by simp [hk]⟩
    · obtain ⟨a, b⟩ := ih h
      refine ⟨by simp only [List.length_append, List.length_cons]; omega, fun k hk => ?_⟩
      have := b k hk
      simp [this]
theorem splL_ok {c : Nat} {m x : List Nat} (h : okX m) (hx : x ∈ splL c m) : okX x := by
  have := joinL_sub c (splL c m) x hx
  rw [splL_join] at this
  exact ⟨Nat.le_trans this.1 h.1, fun k hk => h.2 k (this.2 k hk)⟩
theorem split_ev (m : List Nat) (c : Nat) (h : okX m) : strOnly splitD (dS m) [dS [c]] = some (.list ((splL c m).map dS)) := by
  show splitD (dS m) [dS [c]] = _
  unfold splitD
  dsimp only
  rw [if_pos]
  · rw [← splL_tx, List.map_map]; rfl
  · rw [tx_len, tx_len, sizeLine_eq]
    have := h.1
    exact ⟨by simp, by omega⟩
def fr (l : List Nat) : List Nat := (Txt.partition (tx l) (tx [32, 124, 32])).1.cps.toList
def br (l : List Nat) : List Nat := (Txt.partition (tx l) (tx [32, 124, 32])).2.1.cps.toList
def bk (l : List Nat) : List Nat := (Txt.partition (tx l) (tx [32, 124, 32])).2.2.cps.toList
theorem part_sum (l : List Nat) : fr l ++ br l ++ bk l = l := by
  have := StrLaws.partition_sum (tx l) (tx [32, 124, 32])
  rw [tx_of (Txt.partition (tx l) (tx [32, 124, 32])).1, tx_of (Txt.partition (tx l) (tx [32, 124, 32])).2.1, tx_of (Txt.partition (tx l) (tx [32, 124, 32])).2.2, tx_app, tx_app] at this
  have := congrArg (fun z : Str => z.cps.toList) this
  simpa [fr, br, bk] using this
theorem fr_ok {l : List Nat} (h : okX l) : okX (fr l) := by
  have e := part_sum l
  refine ⟨?_, fun k hk => h.2 k (by rw [← e]; simp [hk])⟩
  have := congrArg List.length e
  simp only [List.length_append] at this
  have := h.1
  omega
theorem br_ok {l : List Nat} (h : okX l) : okX (br l) := by
  have e := part_sum l
  refine ⟨?_, fun k hk => h.2 k (by rw [← e]; simp [hk])⟩
  have := congrArg List.length e
  simp only [List.length_append] at this
  have := h.1
  omega
theorem bk_ok {l : List Nat} (h : okX l) : okX (bk l) := by
  have e := part_sum l
  refine ⟨?_, fun k hk => h.2 k (by rw [← e]; simp [hk])⟩
  have := congrArg List.length e
  simp only [List.length_append] at this
  have := h.1
  omega
def pA' (l : List Nat) : List (List Nat) := splL 32 (fr l)
def pB' (l : List Nat) : List (List (List Nat)) := if br l = [] then [] else (splL 32 (bk l)).map (splL 62)
theorem pA_ok {l : List Nat} (h : okX l) : ∀ x ∈ pA' l, okX x := fun x hx => splL_ok (fr_ok h) hx
theorem pB_ok {l : List Nat} (h : okX l) : ∀ ws ∈ pB' l, ∀ x ∈ ws, okX x := fun ws hw x hx => by
  unfold pB' at hw
  split at hw
  · simp at hw
  · obtain ⟨m, hm, rfl⟩ := List.mem_map.mp hw
    exact splL_ok (splL_ok (bk_ok h) hm) hx
theorem part_ev {l : List Nat} (h : okX l) : strOnly partD (dS l) [dS [32, 124, 32]] = some (.tuple [dS (fr l), dS (br l), dS (bk l)]) := by
  show partD (dS l) [dS [32, 124, 32]] = _
  unfold partD
  dsimp only
  rw [if_pos]
  · rfl
  · rw [tx_len, tx_len, sizeLine_eq]
    have := h.1
    exact ⟨by simp, by omega⟩
theorem tup_lst (ds : List D) : tupleD [.list ds] = some (.tuple ds) := rfl
/-- a set's pairs are pairs of tiles -/
theorem pairs_of {A : List (List Nat)} {B : List (List (List Nat))} (h : setB A B = true) (hA : ∀ x ∈ A, okX x) (hB : ∀ ws ∈ B, ∀ x ∈ ws, okX x) : ∃ Bp, B = Bp.map pr ∧ Small A Bp ∧ ∀ p ∈ Bp, okX p.1 ∧ okX p.2 := by
  unfold setB at h
  simp only [Bool.and_eq_true, decide_eq_true_eq, List.all_eq_true] at h
  obtain ⟨⟨h1, h2⟩, h3, h4, h5, h6, h7⟩ := h
  have two : ∀ x : List Nat, tileL x = true → x.length = 2 := fun x hx => by
    unfold tileL at hx
    split at hx
    · rfl
    · cases hx
  have hw : ∀ ws ∈ B, ws = pr (ws.getD 0 [], ws.getD 1 []) ∧ (ws.getD 0 []).length = 2 ∧ (ws.getD 1 []).length = 2 := fun ws hws => by
    have := h6 ws hws
    unfold pairB at this
    simp only [Bool.and_eq_true, decide_eq_true_eq, List.all_eq_true] at this
    obtain ⟨l2, al⟩ := this
    match ws, l2 with
    | [a, b], _ => exact ⟨rfl, two a (al a (by simp)).1, two b (al b (by simp)).1⟩
  refine ⟨B.map fun ws => (ws.getD 0 [], ws.getD 1 []), ?_, ⟨fun x hx => two x (h3 x hx), h2, fun p hp => ?_, by simpa using h5⟩, fun p hp => ?_⟩
  · rw [List.map_map]
    symm
    exact (List.map_congr_left fun ws hws => (hw ws hws).1.symm).trans (List.map_id _)
  · obtain ⟨ws, hws, rfl⟩ := List.mem_map.mp hp
    exact (hw ws hws).2
  · obtain ⟨ws, hws, rfl⟩ := List.mem_map.mp hp
    have e := (hw ws hws).1
    have m0 : ws.getD 0 [] ∈ ws := by rw [e]; simp
    have m1 : ws.getD 1 [] ∈ ws := by rw [e]; simp
    exact ⟨hB ws hws _ m0, hB ws hws _ m1⟩
theorem ne_str {l m : List Nat} (hl : okX l) (hm : okX m) : neD (dS l) (dS m) = some (.bool (!decide (l = m))) := by
  unfold neD
  rw [shaped_str hl, shaped_str hm, eqv_str]
  rfl
theorem okX_nil : okX [] := ⟨by simp, by simp⟩
theorem fmtL_ok {A : List (List Nat)} {B : List (List Nat × List Nat)} (h : Small A B) (hA : ∀ x ∈ A, okX x) (hB : ∀ p ∈ B, okX p.1 ∧ okX p.2) : okX (fmtL A B) := by
  have hA2 : ∀ x ∈ A, x.length ≤ 2 := fun x hx => Nat.le_of_eq (h.a x hx)
  have hjl := joinL_len hA2
  have hn := h.n
  have hm := h.m
  have jm : ∀ P : List (List Nat), (∀ x ∈ P, okX x) → ∀ k ∈ joinL 32 P, k < 1114112 := by
    intro P
    induction P with
    | nil => intro _ k hk; simp [joinL] at hk
    | cons x P ih =>
      intro hP k hk
      cases P with
      | nil => simp only [joinL] at hk; exact (hP x (by simp)).2 k hk
      | cons y r =>
        simp only [joinL, List.mem_append, List.mem_cons] at hk
        rcases hk with hk | rfl | hk
        · exact (hP x (by simp)).2 k hk
        · omega
        · exact ih (fun z hz => hP z (by simp [hz])) k hk
  have h6 : ∀ x ∈ B.map pairT, x.length ≤ 6 := fun x hx => by
    obtain ⟨q, hq, rfl⟩ := List.mem_map.mp hx
    have hq2 := h.b q hq
    simp [pairT, hq2]
  have hfl := flat_len h6
  rw [List.length_map] at hfl
  unfold fmtL
  refine ⟨?_, fun k hk => ?_⟩
  · split
    · simp; omega
    · simp only [List.length_append, List.length_cons]; omega
  · rcases List.mem_append.mp hk with hk | hk
    · exact jm A hA k hk
    · split at hk
      · simp at hk
      · simp only [List.mem_cons, List.mem_flatten, List.mem_map] at hk
        rcases hk with rfl | rfl | ⟨x, ⟨q, hq, rfl⟩, hk⟩
        · omega
        · omega
        · simp only [pairT, List.mem_cons, List.mem_append] at hk
          rcases hk with rfl | hk | rfl | hk
          · omega
          · exact (hB q hq).1.2 k hk
          · omega
          · exact (hB q hq).2.2 k hk
theorem ev_parse {K : PySem.W.Frag} {l : List Nat} (h : okX l) :
    (fn_parse_set K [dS l] = some (.error (xc K "InvalidFormat")) ∧ ∀ Bp, pB' l = Bp.map pr → setB (pA' l) (pB' l) = true → fmtL (pA' l) Bp ≠ l) ∨
    ∃ Bp, pB' l = Bp.map pr ∧ setB (pA' l) (pB' l) = true ∧ fmtL (pA' l) Bp = l ∧ Small (pA' l) Bp ∧ (∀ p ∈ Bp, okX p.1 ∧ okX p.2) ∧ fn_parse_set K [dS l] = some (.ok (dU (pA' l) Bp)) := by
  have key : ∀ b : Bool, fn_is_set K [dT (pA' l) (pB' l)] = some (.bool b) → fn_parse_set K [dS l] = (if b then ((fn_formatted K [dT (pA' l) (pB' l)]).bind fun t => (neD t (dS l)).bind testD).bind fun q => if q then some (.error (xc K "InvalidFormat")) else some (.ok (dT (pA' l) (pB' l))) else some (.error (xc K "InvalidFormat"))) := by
    intro b hb
    unfold fn_parse_set
    rw [runR_eq (δ := [.im (dS l), .un, .un, .un, .un, .un, .un]) rfl rfl]
    unfold g_parse_set
    simp only [c_sp, c_bar2, c_nil, c_gt]
    have hbr := br_ok h
    simp only [ev_seqO, ev_ifO, ev_pur, ev_pNotT, ev_pTest, ev_p1, ev_p2, ev_slot0, Option.bind_some, isi_str (d := dS l) rfl, isStrD, ev_testB, Option.map_some, Bool.not_true, Bool.false_eq_true, if_false, ev_thenNx, ev_asgO, part_ev h, ev_tupT, ev_gsCons, ev_gsNil, ev_putS, List.set_cons_succ, List.set_cons_zero, ev_pA, ev_pNil, ev_slot4, ne_str hbr okX_nil]
    rw [show lstD [] = some (.list []) from rfl]
    simp only [Option.bind_some, Option.map_some, ev_thenNx, ev_seqO, ev_ifO, ev_pur, ev_pTest, ev_p2, ev_slot4, ev_slot0, ne_str hbr okX_nil, ev_testB, List.set_cons_succ, List.set_cons_zero]
    have fin : ∀ B : List (List (List Nat)), B = pB' l → (thenO (seqO (asgO (pur (pA tupD (pCons (pA tupleD (pCons (p2 (fun a b => strOnly splitD a [b]) (slot 3) (fun _ => some (.str (tx [32])))) pNil)) (pCons (pA tupleD (pCons (slot 1) pNil)) pNil)))) (putS 2)) (seqO (ifO (pur (pOrT (pNotT (pTest (pA (fn_is_set K) (pCons (slot 2) pNil)))) (pTest (p2 neD (pA (fn_formatted K) (pCons (slot 2) pNil)) (slot 0))))) (fun δ => some (.er (xc K "InvalidFormat") δ)) (fun δ => some (.nx δ))) (retO (pur (slot 2)))))
        (Out.nx [.im (dS l), .im (.list (B.map dP)), .un, .im (dS (fr l)), .im (dS (br l)), .im (dS (bk l)), .un])).bind outR = (if b then ((fn_formatted K [dT (pA' l) (pB' l)]).bind fun t => (neD t (dS l)).bind testD).bind fun q => if q then some (.error (xc K "InvalidFormat")) else some (.ok (dT (pA' l) (pB' l))) else some (.error (xc K "InvalidFormat"))) := by
      intro B hB
      subst hB
      simp only [ev_thenNx, ev_seqO, ev_asgO, ev_pur, ev_pA, ev_pCons, ev_pNil, ev_p2, ev_slot3, ev_slot1, ev_slot0, Option.bind_some, split_ev (fr l) 32 (fr_ok h), tup_lst]
      rw [show tupD [.tuple ((splL 32 (fr l)).map dS), .tuple ((pB' l).map dP)] = some (dT (pA' l) (pB' l)) from rfl]
      simp only [Option.map_some, Option.bind_some, ev_putS, List.set_cons_succ, List.set_cons_zero, ev_thenNx, ev_seqO, ev_ifO, ev_pur, ev_pOrT, ev_pNotT, ev_pTest, ev_pA, ev_pCons, ev_pNil, ev_slot2, ev_slot0, hb, ev_testB]
      cases b with
      | false => rfl
      | true =>
        simp only [Bool.not_true, Bool.false_eq_true, if_false, if_true, ev_p2, ev_pA, ev_pCons, ev_pNil, ev_slot2, ev_slot0, Option.bind_some]
        cases e1 : fn_formatted K [dT (pA' l) (pB' l)] with
        | none => rfl
        | some t =>
          simp only [Option.bind_some]
          cases e2 : (neD t (dS l)).bind testD with
          | none => rfl
          | some q => cases q <;> rfl
    by_cases hb0 : br l = []
    · rw [decide_eq_true hb0]
      simp only [Bool.not_true, Bool.false_eq_true, if_false, Option.bind_some, Option.map_some]
      exact fin [] (by unfold pB'; rw [if_pos hb0])
    · rw [decide_eq_false hb0]
      simp only [Bool.not_false, if_true, ev_asgO, ev_pur, ev_pLc, ev_pIterS, ev_p2, ev_slot5, ev_slot0, Option.bind_some, split_ev (bk l) 32 (bk_ok h), ev_iterS_l, ev_wipe1, ev_wipe0, ev_noOw1, ev_noOw0, List.getElem?_cons_succ, List.getElem?_cons_zero, Bool.and_self, List.set_cons_succ, List.set_cons_zero]
      rw [lc_mapG (δ1 := fun d => [.im (dS l), .im (.list []), .un, .im (dS (fr l)), .im (dS (br l)), .im (dS (bk l)), .im d]) (fun d => match d with | .str z => dP (splL 62 z.cps.toList) | _ => .none) (fun d hd => rfl) (fun d hd => by
        obtain ⟨m, hm, rfl⟩ := List.mem_map.mp hd
        simp only [ev_pA, ev_pCons, ev_pNil, ev_p2, ev_slot6, ev_slot0, Option.bind_some, split_ev m 62 (splL_ok (bk_ok h) hm), tup_lst])]
      simp only [Option.bind_some, Option.map_some, ev_putS, List.set_cons_succ, List.set_cons_zero]
      have e5 : (((splL 32 (bk l)).map dS).map fun d => (match d with | .str z => dP (splL 62 z.cps.toList) | _ => .none : D)) = (pB' l).map dP := by
        unfold pB'
        rw [if_neg hb0, List.map_map, List.map_map]
        exact List.map_congr_left fun m _ => by simp [Function.comp]
      rw [e5]
      exact fin _ rfl
  have hset := ev_is_set (K := K) (pA' l) (pB' l) (pA_ok h) (pB_ok h)
  have k := key _ hset
  cases hs : setB (pA' l) (pB' l) with
  | false =>
    rw [hs] at k
    exact .inl ⟨k, fun _ _ z => by cases z⟩
  | true =>
    rw [hs] at k
    obtain ⟨Bp, e1, sm, ok⟩ := pairs_of hs (pA_ok h) (pB_ok h)
    have hf : fn_formatted K [dT (pA' l) (pB' l)] = some (dS (fmtL (pA' l) Bp)) := by
      rw [e1, ← dU_eq]
      exact ev_formatted sm ok
    rw [hf] at k
    simp only [if_true, Option.bind_some, ne_str (fmtL_ok sm (pA_ok h) ok) h, ev_testB] at k
    by_cases q : fmtL (pA' l) Bp = l
    · refine .inr ⟨Bp, e1, rfl, q, sm, ok, ?_⟩
      rw [decide_eq_true q] at k
      rw [k, dU_eq, ← e1]
      rfl
    · refine .inl ⟨?_, fun Bp' e2 _ z => q ?_⟩
      · rw [decide_eq_false q] at k
        rw [k]
        rfl
      · have : Bp' = Bp := by
          rw [e1] at e2
          have inj : Function.Injective pr := fun a b hab => by
            have : [a.1, a.2] = [b.1, b.2] := hab
            simp only [List.cons.injEq, and_true] at this
            exact Prod.ext this.1 this.2
          exact ((List.map_inj_right (fun a b hab => inj hab)).mp e2).symm
        rw [← this]; exact z
end Pr

set_option Elab.async false
set_option linter.all false
set_option maxRecDepth 100000
set_option maxHeartbeats 4000000
namespace Pr
open PySem PySem.Spec PyProof.Rows L2 Pf

/-! ### parse_set undoes formatted -/
theorem tile_no {x : List Nat} (h : tileL x = true) : x.length = 2 ∧ okX x ∧ ∀ k ∈ x, k ≠ 32 ∧ k ≠ 124 ∧ k ≠ 62 := by
  unfold tileL at h
  split at h
  · rename_i c k
    simp only [Bool.and_eq_true, decide_eq_true_eq, List.mem_cons, List.not_mem_nil, or_false] at h
    refine ⟨rfl, ⟨by simp, fun j hj => ?_⟩, fun j hj => ?_⟩
    · simp only [List.mem_cons, List.not_mem_nil, or_false] at hj
      omega
    · simp only [List.mem_cons, List.not_mem_nil, or_false] at hj
      omega
  · cases h
def qT (p : List Nat × List Nat) : List Nat := p.1 ++ 62 :: p.2
theorem flat_q : ∀ B : List (List Nat × List Nat), B ≠ [] → (B.map pairT).flatten = 32 :: joinL 32 (B.map qT)
  | [], h => absurd rfl h
  | [p], _ => by simp [pairT, qT, joinL]
  | p :: q :: r, _ => by
    have ih := flat_q (q :: r) (by simp)
    simp only [List.map_cons, List.flatten_cons] at ih ⊢
    rw [ih]
    simp [pairT, qT, joinL]
theorem joinL_no {c k : Nat} (hk : k ≠ c) : ∀ {P : List (List Nat)}, (∀ x ∈ P, k ∉ x) → k ∉ joinL c P
  | [], _ => by simp [joinL]
  | [x], h => by simpa [joinL] using h x (by simp)
  | x :: y :: r, h => by
    have ih := joinL_no hk (P := y :: r) fun z hz => h z (by simp [hz])
    simp only [joinL, List.mem_append, List.mem_cons, not_or]
    exact ⟨h x (by simp), hk, ih⟩
theorem parse_fmt {A : List (List Nat)} {B : List (List Nat × List Nat)} (hA : A ≠ []) (h1 : ∀ x ∈ A, tileL x = true) (h2 : ∀ p ∈ B, tileL p.1 = true ∧ tileL p.2 = true) : pA' (fmtL A B) = A ∧ pB' (fmtL A B) = B.map pr := by
  have n32 : ∀ x ∈ A, 32 ∉ x := fun x hx z => ((tile_no (h1 x hx)).2.2 32 z).1 rfl
  have n124 : 124 ∉ joinL 32 A := joinL_no (by decide) fun x hx z => ((tile_no (h1 x hx)).2.2 124 z).2.1 rfl
  cases B with
  | nil =>
    have e : fmtL A [] = joinL 32 A := by simp [fmtL]
    have hp := part_none (joinL 32 A) n124
    rw [e]
    unfold pA' pB' fr br
    rw [hp]
    exact ⟨splL_uniq hA n32, if_pos rfl⟩
  | cons p B =>
    have e : fmtL A (p :: B) = joinL 32 A ++ 32 :: 124 :: 32 :: joinL 32 ((p :: B).map qT) := by
      unfold fmtL
      rw [flat_q (p :: B) (by simp)]
      rfl
    have hp := part_at (joinL 32 A) (joinL 32 ((p :: B).map qT)) n124
    rw [e]
    unfold pA' pB' fr br bk
    rw [hp]
    refine ⟨splL_uniq hA n32, ?_⟩
    show (if ([32, 124, 32] : List Nat) = [] then [] else (splL 32 (joinL 32 ((p :: B).map qT))).map (splL 62)) = _
    rw [if_neg (by simp), splL_uniq (by simp) (fun x hx => by
      obtain ⟨q, hq, rfl⟩ := List.mem_map.mp hx
      have t1 := (tile_no (h2 q hq).1).2.2
      have t2 := (tile_no (h2 q hq).2).2.2
      simp only [qT, List.mem_append, List.mem_cons, not_or]
      exact ⟨fun z => (t1 32 z).1 rfl, by decide, fun z => (t2 32 z).1 rfl⟩), List.map_map]
    refine List.map_congr_left fun q hq => ?_
    have t1 := (tile_no (h2 q hq).1).2.2
    have t2 := (tile_no (h2 q hq).2).2.2
    show splL 62 (qT q) = pr q
    have : qT q = joinL 62 [q.1, q.2] := rfl
    rw [this]
    refine splL_uniq (by simp) fun x hx => ?_
    simp only [List.mem_cons, List.not_mem_nil, or_false] at hx
    rcases hx with rfl | rfl
    · exact fun z => (t1 62 z).2.2 rfl
    · exact fun z => (t2 62 z).2.2 rfl
theorem parse_back {K : PySem.W.Frag} {A : List (List Nat)} {B : List (List Nat × List Nat)} (hs : setB A (B.map pr) = true) (hA : A ≠ []) (h1 : ∀ x ∈ A, tileL x = true) (h2 : ∀ p ∈ B, tileL p.1 = true ∧ tileL p.2 = true) (ok : okX (fmtL A B)) : fn_parse_set K [dS (fmtL A B)] = some (.ok (dU A B)) := by
  obtain ⟨e1, e2⟩ := parse_fmt hA h1 h2
  rcases ev_parse (K := K) ok with ⟨_, h⟩ | ⟨Bp, b1, b2, b3, _, _, b4⟩
  · exact absurd (by rw [e1]) (h B e2 (by rw [e1, e2]; exact hs))
  · rw [e1] at b4
    rw [b4]
    have : Bp = B := by
      rw [e2] at b1
      have inj : ∀ a b, pr a = pr b → a = b := fun a b hab => by
        have : [a.1, a.2] = [b.1, b.2] := hab
        simp only [List.cons.injEq, and_true] at this
        exact Prod.ext this.1 this.2
      exact ((List.map_inj_right (fun a b hab => inj a b hab)).mp b1).symm
    rw [this]
theorem ev_parse_no {K : PySem.W.Frag} {d : D} (h : noDic d = true) (hs : isStrD d = false) : fn_parse_set K [d] = some (.error (xc K "InvalidFormat")) := by
  unfold fn_parse_set
  rw [runR_eq (δ := [.im d, .un, .un, .un, .un, .un, .un]) rfl rfl]
  unfold g_parse_set
  simp only [ev_seqO, ev_ifO, ev_pur, ev_pNotT, ev_pTest, ev_p1, ev_slot0, Option.bind_some, isi_str h, hs, ev_testB, Option.map_some, Bool.not_false, if_true, ev_thenEr, ev_outREr]
/-! ### _law_which, _law_ask -/
abbrev raised (i : Int) : D := .tuple [.str (PySem.Str.ofString "raised"), .int i]
theorem isE_at (a : Addr) (b : Bool) (r : Pf.S) : isEO 0 a (some b) (.rw (.ref a) :: r) = some (.bool b) := by
  show (if a = a then (some b).map PyData.bool else none) = _
  rw [if_pos rfl]; rfl
theorem ev_which {K : PySem.W.Frag} {C : Addr} (dom : fw_dom K C) {i : Nat} (hi : i < 9) (hv : PySem.W.kitOne K (.ref C) (.type "ValueError") = some true)
    (h0 : PySem.W.kitOne K (.ref C) (.ref (xc K "InvalidSet")) = some (decide (i = 0))) (h1 : PySem.W.kitOne K (.ref C) (.ref (xc K "InvalidLength")) = some (decide (i = 1))) (h2 : PySem.W.kitOne K (.ref C) (.ref (xc K "InvalidLook")) = some (decide (i = 2)))
    (h3 : PySem.W.kitOne K (.ref C) (.ref (xc K "InvalidTiling")) = some (decide (i = 3))) (h4 : PySem.W.kitOne K (.ref C) (.ref (xc K "NoSuchTiling")) = some (decide (i = 4))) (h5 : PySem.W.kitOne K (.ref C) (.ref (xc K "UnknownTile")) = some (decide (i = 5)))
    (h6 : PySem.W.kitOne K (.ref C) (.ref (xc K "Apart")) = some (decide (i = 6))) (h7 : PySem.W.kitOne K (.ref C) (.ref (xc K "NothingLaid")) = some (decide (i = 7))) (h8 : PySem.W.kitOne K (.ref C) (.ref (xc K "InvalidFormat")) = some (decide (i = 8))) :
    fn_law_which K C = some (raised i) := by
  refine fnW_eq dom fun a => ?_
  rw [show initW n_law_which a = [.rw (.ref a), .un] from rfl]
  unfold g_law_which
  rw [hv, h0, h1, h2, h3, h4, h5, h6, h7, h8]
  have ext : ∀ (l r : List D) (g : Pf.S → Option D), g [.rw (.ref a), .ow none (.lst l)] = some (.list r) → l.length + r.length ≤ 100 → extO 1 g [.rw (.ref a), .ow none (.lst l)] = some (.nx [.rw (.ref a), .ow none (.lst (l ++ r))]) := fun l r g hg hl => by
    show ((g [.rw (.ref a), .ow none (.lst l)]).bind fun d => match d with
      | .list r => if l.length + r.length ≤ sizeLine then some (Out.nx [.rw (.ref a), .ow none (.lst (l ++ r))]) else none
      | _ => none) = _
    rw [hg, Option.bind_some]
    dsimp only
    rw [if_pos (by rw [sizeLine_eq]; omega)]
  have set1 : setV 1 (vLst (pCons (isEO 0 a (some (decide (i = 0)))) (pCons (isEO 0 a (some (decide (i = 1)))) pNil))) [.rw (.ref a), .un] = some (.nx [.rw (.ref a), .ow none (.lst [.bool (decide (i = 0)), .bool (decide (i = 1))])]) := by
    unfold setV vLst
    simp only [ev_pCons, ev_pNil, isE_at, Option.bind_some]
    rw [if_pos (by rw [sizeLine_eq]; simp)]
    rfl
  have one : ∀ (b : Bool) (r : Pf.S), (pA lstD (pCons (isEO 0 a (some b)) pNil)) (.rw (.ref a) :: r) = some (.list [.bool b]) := fun b r => by
    simp only [ev_pA, ev_pCons, ev_pNil, isE_at, Option.bind_some]; rfl
  have two : ∀ (b c : Bool) (r : Pf.S), (pA lstD (pCons (isEO 0 a (some b)) (pCons (isEO 0 a (some c)) pNil))) (.rw (.ref a) :: r) = some (.list [.bool b, .bool c]) := fun b c r => by
    simp only [ev_pA, ev_pCons, ev_pNil, isE_at, Option.bind_some]; rfl
  rw [ev_seqO, set1, Option.bind_some, ev_thenNx, ev_seqO, ext _ _ _ (one _ _) (by simp), Option.bind_some, ev_thenNx, ev_seqO, ext _ _ _ (two _ _ _) (by simp), Option.bind_some, ev_thenNx, ev_seqO, ext _ _ _ (one _ _) (by simp), Option.bind_some, ev_thenNx, ev_seqO, ext _ _ _ (two _ _ _) (by simp), Option.bind_some, ev_thenNx, ev_seqO, ext _ _ _ (one _ _) (by simp), Option.bind_some, ev_thenNx]
  simp only [List.cons_append, List.nil_append]
  show ((seqO _ _ [.rw (.ref a), .im (.list [.bool (decide (i = 0)), .bool (decide (i = 1)), .bool (decide (i = 2)), .bool (decide (i = 3)), .bool (decide (i = 4)), .bool (decide (i = 5)), .bool (decide (i = 6)), .bool (decide (i = 7)), .bool (decide (i = 8))])]).bind outP) = _
  have cn : ∀ i : Nat, i < 9 → lstOnly cntD (.list [.bool (decide (i = 0)), .bool (decide (i = 1)), .bool (decide (i = 2)), .bool (decide (i = 3)), .bool (decide (i = 4)), .bool (decide (i = 5)), .bool (decide (i = 6)), .bool (decide (i = 7)), .bool (decide (i = 8))]) (.bool true) = some (.int 1) := fun i hi => by
    match i, hi with
    | 0, _ => rfl
    | 1, _ => rfl
    | 2, _ => rfl
    | 3, _ => rfl
    | 4, _ => rfl
    | 5, _ => rfl
    | 6, _ => rfl
    | 7, _ => rfl
    | 8, _ => rfl
  have ix : ∀ i : Nat, i < 9 → lstOnly idxD (.list [.bool (decide (i = 0)), .bool (decide (i = 1)), .bool (decide (i = 2)), .bool (decide (i = 3)), .bool (decide (i = 4)), .bool (decide (i = 5)), .bool (decide (i = 6)), .bool (decide (i = 7)), .bool (decide (i = 8))]) (.bool true) = some (.int i) := fun i hi => by
    match i, hi with
    | 0, _ => rfl
    | 1, _ => rfl
    | 2, _ => rfl
    | 3, _ => rfl
    | 4, _ => rfl
    | 5, _ => rfl
    | 6, _ => rfl
    | 7, _ => rfl
    | 8, _ => rfl
  simp only [ev_seqO, ev_ifO, ev_pur, ev_pOrT, ev_pNotT, ev_pTest, ev_p2, ev_slot1, ev_slot0, Option.bind_some, cn i hi, ix i hi, ne_int, isE_at, ev_testB, Option.map_some, ev_thenNx, ev_retO, ev_pA, ev_pCons, ev_pNil]
  rw [show (if (!((1 : Int) == 1)) = true then some true else some (!true)) = some false from rfl]
  simp only [Option.map_some, Option.bind_some, Bool.false_eq_true, if_false, ev_thenNx, ev_retO, ev_pur, ev_pA, ev_pCons, ev_pNil, ev_p2, ev_slot1, ev_slot0, ix i hi]
  rfl
theorem which0 {K : PySem.W.Frag} (kf : KF K) : fn_law_which K (xc K "InvalidSet") = some (raised 0) := by
  have h := kf.is0
  exact ev_which (i := 0) (.inl rfl) (by omega) (kf.ve _ (.inl rfl)) (h _ (by simp)) (h _ (by simp)) (h _ (by simp)) (h _ (by simp)) (h _ (by simp)) (h _ (by simp)) (h _ (by simp)) (h _ (by simp)) (h _ (by simp))
theorem which8 {K : PySem.W.Frag} (kf : KF K) : fn_law_which K (xc K "InvalidFormat") = some (raised 8) := by
  have h := kf.is8
  exact ev_which (i := 8) (.inr rfl) (by omega) (kf.ve _ (.inr rfl)) (h _ (by simp)) (h _ (by simp)) (h _ (by simp)) (h _ (by simp)) (h _ (by simp)) (h _ (by simp)) (h _ (by simp)) (h _ (by simp)) (h _ (by simp))
noncomputable def askR (K : PySem.W.Frag) : Option (Except Addr D) → Option D
  | some (.ok d) => some d
  | some (.error c) => fn_law_which K c
  | none => none
theorem ev_ask {K : PySem.W.Frag} (k : Nat) (hk : k < 2) (d : D) : fn_law_ask K [.int k, d] = askR K ((if k = 0 then fn_format_set K else fn_parse_set K) [d]) := by
  unfold fn_law_ask
  rw [runP_eq (δ := [.im (.int k), .im d, .un]) rfl rfl]
  unfold g_law_ask tryO selO
  simp only [ev_slot0, ev_slot1, Option.bind_some, ev_pCons, ev_pNil]
  have e : L2.atI (fn_format_set K :: (fn_parse_set K :: [])) (k : Int) = some (if k = 0 then fn_format_set K else fn_parse_set K) := by
    match k, hk with
    | 0, _ => rfl
    | 1, _ => rfl
  rw [e, Option.bind_some]
  cases (if k = 0 then fn_format_set K else fn_parse_set K) [d] with
  | none => rfl
  | some r =>
    cases r with
    | ok t => rfl
    | error c =>
      show ((if 2 < ([.im (.int k), .im d, .un] : Pf.S).length then (fn_law_which K c).map fun d' => Out.rt d' [.im (.int k), .im d, .un] else none).bind outP) = fn_law_which K c
      rw [if_pos (by simp)]
      cases fn_law_which K c <;> rfl
end Pr

set_option Elab.async false
set_option linter.all false
set_option maxRecDepth 100000
set_option maxHeartbeats 4000000
namespace Pr
open PySem PySem.Spec PyProof.Rows L2 Pf

/-! ### draws -/
theorem gt_int (i j : Int) : gtD (.int i) (.int j) = some (.bool (decide (j < i))) := rfl
theorem lt_int (i j : Int) : ltD (.int i) (.int j) = some (.bool (decide (i < j))) := rfl
theorem ge_int (i j : Int) : geD (.int i) (.int j) = some (.bool (decide (j ≤ i))) := rfl
theorem add_int (i j : Int) : addD (.int i) (.int j) = some (.int (i + j)) := rfl
theorem iadd_int' (i j : Int) : iaddD (.int i) (.int j) = some (.int (i + j)) := rfl
theorem mod_int {i j : Int} (h : j ≠ 0) : modD (.int i) (.int j) = some (.int (i.fmod j)) := if_pos h
theorem fdiv_int {i j : Int} (h : 0 < j) (h2 : j < 2 ^ 64) : fdivD (.int i) (.int j) = some (.int (i.fdiv j)) := by
  refine if_pos ⟨by omega, ?_⟩
  have : j.natAbs < 2 ^ 64 := by omega
  have := (Nat.log2_lt (by omega)).mpr this
  omega
theorem mul_int' {i j : Int} (h : CMulA i j) : mulD (.int i) (.int j) = some (.int (i * j)) := if_pos h
theorem pow_int {i j : Int} (h : CPow i j) : powD (.int i) (.int j) = some (.int (i ^ j.toNat)) := if_pos h
theorem lix0 (x y : D) : ixD (.list [x, y]) (.int 0) = some x := rfl
theorem lix1 (x y : D) : ixD (.list [x, y]) (.int 1) = some y := rfl
theorem lend_draw (l : List Int) (q : Option Addr) (t : List D) (r : Pf.S) : lendS (.fl l :: .ow q (.lst t) :: r) = .fl l :: .im (.list t) :: lendS r := rfl
structure DrawOk (K : PySem.W.Frag) (l : List Int) (at_ left m : Int) (r at' left' : Int) : Prop where
  e : fn_law_draw K [.fl l, .un, .im (.int m)] (.lst [.int at_, .int left]) = some (.ok (.int r), .lst [.int at', .int left'])
  r0 : 0 ≤ r
  r1 : r < m
  a0 : 0 ≤ at'
  l0 : 0 ≤ left'
theorem lnt_eq {f : Pf.S → Option D} {δ : Pf.S} {d : D} (h : f (lendS δ) = some d) (hs : Pf.scal d = true) : lnt f δ = some d := by
  unfold lnt
  rw [h, Option.bind_some, if_pos hs]
theorem lntT_eq {f : Pf.S → Option Bool} {δ : Pf.S} {d : Bool} (h : f (lendS δ) = some d) : lntT f δ = some d := h
abbrev sD (l : List Int) (p : Addr) (a b m : Int) (s3 s4 s5 : Sl) : Pf.S := [.fl l, .ow (some p) (.lst [.int a, .int b]), .im (.int m), s3, s4, s5]
theorem sit_eq {l : List Int} {p : Addr} {a b m v : Int} {s3 s4 s5 : Sl} {g : Pf.S → Option D} (h : g (sD l p a b m s3 s4 s5) = some (.int v)) : sitO 1 (fun _ => some (.int 1)) g (sD l p a b m s3 s4 s5) = some (.nx (sD l p a v m s3 s4 s5)) := by
  unfold sitO
  rw [h]
  rfl
theorem out_eq {l : List Int} {p : Addr} {a b m : Int} {s3 s4 s5 : Sl} {d : D} : outO 1 p (.rt d (sD l p a b m s3 s4 s5)) = some (.ok d, .lst [.int a, .int b]) := by
  unfold outO ownAt
  dsimp only
  show (if p = p then some _ else none).map _ = _
  rw [if_pos rfl]
  rfl
theorem ev_draw {K : PySem.W.Frag} (l : List Int) {at_ left m : Int} (ha : 0 ≤ at_) (hl : 0 ≤ left) (hm : 0 < m) (hm2 : m < 2 ^ 64) : ∃ r at' left', DrawOk K l at_ left m r at' left' := by
  have hm0 : m ≠ 0 := by omega
  have gt1 : ∀ p s3 s4 s5, lntT (pTest (p2 gtD (p2 ixD (slot 1) (fun _ => some (.int 1))) (fun _ => some (.int 0)))) (sD l p at_ left m s3 s4 s5) = some (decide (0 < left)) := fun _ _ _ _ => rfl
  by_cases c1 : 0 < left
  · refine ⟨left.fmod m, at_, left.fdiv m, ⟨fnO_eq rfl fun p => ?_, Int.fmod_nonneg_of_pos _ hm, Int.fmod_lt_of_pos _ hm, ha, Int.fdiv_nonneg hl (by omega)⟩⟩
    show ((g_law_draw K (sD l p at_ left m .un .un .un)).bind (outO 1 p)) = _
    unfold g_law_draw
    rw [ev_seqO, ev_ifO, ev_pur, gt1, decide_eq_true c1]
    simp only [Option.map_some, Option.bind_some, if_true]
    rw [ev_seqO, ev_asgO, ev_pur, lnt_eq (d := .int (left.fmod m)) (by
      show modD (.int left) (.int m) = _
      exact mod_int hm0) rfl]
    simp only [Option.map_some, Option.bind_some, ev_putS, List.set_cons_succ, List.set_cons_zero, ev_thenNx]
    rw [ev_seqO, sit_eq (v := left.fdiv m) (lnt_eq (by
      show fdivD (.int left) (.int m) = _
      exact fdiv_int hm hm2) rfl)]
    simp only [Option.bind_some, ev_thenNx, ev_retO, ev_pur, ev_slot5, ev_slot0, Option.map_some, ev_thenRt]
    exact out_eq
  · have at1 : ∀ p s3 s4 s5, lnt (p2 ixD (slot 1) (fun _ => some (.int 0))) (sD l p at_ left m s3 s4 s5) = some (.int at_) := fun _ _ _ _ => rfl
    have sag : ∀ p s3 s4 s5, sagO 1 (fun _ => some (.int 0)) (fun _ => some (.int 1)) iaddD (sD l p at_ left m s3 s4 s5) = some (.nx (sD l p (at_ + 1) left m s3 s4 s5)) := fun _ _ _ _ => rfl
    have fln : ∀ p s3 s4 s5, flNil 0 (sD l p (at_ + 1) left m s3 s4 s5) = some l.isEmpty := fun _ _ _ _ => rfl
    have flle : ∀ p s3 s4 s5, flLen 0 (sD l p (at_ + 1) left m s3 s4 s5) = some (.int l.length) := fun _ _ _ _ => rfl
    have p18 : powD (.int 10) (.int 18) = some (.int (10 ^ 18)) := pow_int (by unfold CPow; decide)
    by_cases c2 : l = []
    · refine ⟨at_.fmod m, at_ + 1, left, ⟨fnO_eq rfl fun p => ?_, Int.fmod_nonneg_of_pos _ hm, Int.fmod_lt_of_pos _ hm, by omega, hl⟩⟩
      show ((g_law_draw K (sD l p at_ left m .un .un .un)).bind (outO 1 p)) = _
      unfold g_law_draw
      rw [ev_seqO, ev_ifO, ev_pur, gt1, decide_eq_false c1]
      simp only [Option.map_some, Option.bind_some, Bool.false_eq_true, if_false, ev_thenNx]
      rw [ev_seqO, ev_asgO, ev_pur, at1]
      simp only [Option.map_some, Option.bind_some, ev_putS, List.set_cons_succ, List.set_cons_zero, ev_thenNx]
      rw [ev_seqO, sag, Option.bind_some, ev_thenNx, ev_seqO, ev_ifO, ev_pur, fln, c2]
      simp only [List.isEmpty_nil, Option.map_some, Option.bind_some, if_true, ev_retO, ev_pur, ev_p2, ev_slot3, ev_slot2, ev_slot0, mod_int hm0, ev_thenRt]
      exact out_eq
    · have hle : l.isEmpty = false := by cases l with | nil => exact absurd rfl c2 | cons _ _ => rfl
      have hpos : 0 < l.length := List.length_pos_iff.mpr c2
      have flat : ∀ (k : Int) (j : Nat) (v : Int) (p : Addr) (s3 s4 s5 : Sl) (g : Pf.S → Option D), g (sD l p (at_ + 1) left m s3 s4 s5) = some (.int k) → 0 ≤ k → k.toNat = j → l[j]? = some v → flAt 0 g (sD l p (at_ + 1) left m s3 s4 s5) = some (.int v) := fun k j v p s3 s4 s5 g hg h0 hj hv => by
        show ((g (sD l p (at_ + 1) left m s3 s4 s5)).bind fun k => match k with
          | .int k => (L2.atI l k).map PyData.int
          | _ => none) = _
        rw [hg, Option.bind_some]
        show (L2.atI l k).map PyData.int = _
        have hjl : j < l.length := (List.getElem?_eq_some_iff.mp hv).1
        have : L2.atI l k = some v := by
          unfold L2.atI
          have : ixN l.length k = some j := by
            unfold ixN
            rw [if_pos h0, if_pos (by omega), hj]
          rw [this]; exact hv
        rw [this]; rfl
      have p60 : powD (.int 10) (.int 60) = some (.int (10 ^ 60)) := pow_int (by unfold CPow; decide)
      have m60 : mulD (.int (10 ^ 60)) (.int (10 ^ 60)) = some (.int (10 ^ 60 * 10 ^ 60)) := mul_int' (.inl (by unfold CMulW; decide +kernel))
      by_cases c3 : ∃ v, at_.toNat < l.length ∧ l[at_.toNat]? = some v ∧ 10 ^ 18 ≤ v
      · obtain ⟨v, hv1, hv2, hv3⟩ := c3
        have hlt : decide (at_ < (l.length : Int)) = true := decide_eq_true (by omega)
        refine ⟨v.fmod m, at_ + 1, (v.fdiv m).fmod (10 ^ 60 * 10 ^ 60), ⟨fnO_eq rfl fun p => ?_, Int.fmod_nonneg_of_pos _ hm, Int.fmod_lt_of_pos _ hm, by omega, Int.fmod_nonneg_of_pos _ (by decide)⟩⟩
        show ((g_law_draw K (sD l p at_ left m .un .un .un)).bind (outO 1 p)) = _
        unfold g_law_draw
        rw [ev_seqO, ev_ifO, ev_pur, gt1, decide_eq_false c1]
        simp only [Option.map_some, Option.bind_some, Bool.false_eq_true, if_false, ev_thenNx]
        rw [ev_seqO, ev_asgO, ev_pur, at1]
        simp only [Option.map_some, Option.bind_some, ev_putS, List.set_cons_succ, List.set_cons_zero, ev_thenNx]
        rw [ev_seqO, sag, Option.bind_some, ev_thenNx, ev_seqO, ev_ifO, ev_pur, fln, hle]
        simp only [Option.map_some, Option.bind_some, Bool.false_eq_true, if_false, ev_thenNx]
        have fa : flAt 0 (slot 3) (sD l p (at_ + 1) left m (.im (.int at_)) .un .un) = some (.int v) := flat at_ at_.toNat v p _ _ _ (slot 3) rfl ha rfl hv2
        rw [ev_seqO, ev_ifO, ev_pur, ev_pAndT, ev_pTest, ev_p2, ev_slot3, ev_slot0, Option.bind_some, flle, Option.bind_some, lt_int, hlt, Option.bind_some, ev_testB, Option.bind_some, if_pos rfl, ev_pTest, ev_p2, fa, Option.bind_some, ev_p2, Option.bind_some, Option.bind_some, p18, Option.bind_some, ge_int, decide_eq_true hv3, Option.bind_some, ev_testB]
        simp only [Option.map_some, Option.bind_some, if_true]
        rw [ev_seqO, sit_eq (v := (v.fdiv m).fmod (10 ^ 60 * 10 ^ 60)) (by
          rw [ev_p2, ev_p2, fa, Option.bind_some, ev_slot2, ev_slot0, Option.bind_some, fdiv_int hm hm2, Option.bind_some, ev_p2, ev_p2, Option.bind_some, Option.bind_some, p60, Option.bind_some, Option.bind_some, m60, Option.bind_some]
          exact mod_int (by decide))]
        have fa2 : flAt 0 (slot 3) (sD l p (at_ + 1) ((v.fdiv m).fmod (10 ^ 60 * 10 ^ 60)) m (.im (.int at_)) .un .un) = some (.int v) := fa
        simp only [Option.bind_some, ev_thenNx, ev_retO, ev_pur]
        rw [ev_p2, fa2, Option.bind_some, ev_slot2, ev_slot0, Option.bind_some, mod_int hm0]
        simp only [Option.map_some, Option.bind_some, ev_thenRt]
        exact out_eq
      · have hlN : (l.length : Int) ≠ 0 := by omega
        have hix0 : 0 ≤ at_.fmod l.length := Int.fmod_nonneg_of_pos _ (by omega)
        have hix1 : at_.fmod l.length < l.length := Int.fmod_lt_of_pos _ (by omega)
        have hj : (at_.fmod l.length).toNat < l.length := by omega
        obtain ⟨v, hv⟩ : ∃ v, l[(at_.fmod l.length).toNat]? = some v := ⟨_, List.getElem?_eq_getElem hj⟩
        have mr0 := Int.fmod_nonneg_of_pos (v * 1103515245 + 7919 * at_ + 12345) (show (0 : Int) < 2147483647 by decide)
        have mr1 := Int.fmod_lt_of_pos (v * 1103515245 + 7919 * at_ + 12345) (show (0 : Int) < 2147483647 by decide)
        refine ⟨((((v * 1103515245 + 7919 * at_ + 12345).fmod 2147483647 ^ 5).fmod 2147483647).fmod 999983).fmod m, at_ + 1, left, ⟨fnO_eq rfl fun p => ?_, Int.fmod_nonneg_of_pos _ hm, Int.fmod_lt_of_pos _ hm, by omega, hl⟩⟩
        show ((g_law_draw K (sD l p at_ left m .un .un .un)).bind (outO 1 p)) = _
        unfold g_law_draw
        rw [ev_seqO, ev_ifO, ev_pur, gt1, decide_eq_false c1]
        simp only [Option.map_some, Option.bind_some, Bool.false_eq_true, if_false, ev_thenNx]
        rw [ev_seqO, ev_asgO, ev_pur, at1]
        simp only [Option.map_some, Option.bind_some, ev_putS, List.set_cons_succ, List.set_cons_zero, ev_thenNx]
        rw [ev_seqO, sag, Option.bind_some, ev_thenNx, ev_seqO, ev_ifO, ev_pur, fln, hle]
        simp only [Option.map_some, Option.bind_some, Bool.false_eq_true, if_false, ev_thenNx]
        have test : pAndT (pTest (p2 ltD (slot 3) (flLen 0))) (pTest (p2 geD (flAt 0 (slot 3)) (p2 powD (fun _ => some (.int 10)) (fun _ => some (.int 18))))) (sD l p (at_ + 1) left m (.im (.int at_)) .un .un) = some false := by
          rw [ev_pAndT, ev_pTest, ev_p2, ev_slot3, ev_slot0, Option.bind_some, flle, Option.bind_some, lt_int, Option.bind_some, ev_testB, Option.bind_some]
          by_cases q : at_ < (l.length : Int)
          · rw [decide_eq_true q, if_pos rfl]
            have hq : at_.toNat < l.length := by omega
            have fa : flAt 0 (slot 3) (sD l p (at_ + 1) left m (.im (.int at_)) .un .un) = some (.int l[at_.toNat]) := flat at_ at_.toNat _ p _ _ _ (slot 3) rfl ha rfl (List.getElem?_eq_getElem hq)
            rw [ev_pTest, ev_p2, fa, Option.bind_some, ev_p2, Option.bind_some, Option.bind_some, p18, Option.bind_some, ge_int, Option.bind_some, ev_testB]
            rw [decide_eq_false fun z => c3 ⟨_, hq, List.getElem?_eq_getElem hq, z⟩]
          · rw [decide_eq_false q]
            rfl
        rw [ev_seqO, ev_ifO, ev_pur, test]
        simp only [Option.map_some, Option.bind_some, Bool.false_eq_true, if_false, ev_thenNx]
        have fa : flAt 0 (p2 modD (slot 3) (flLen 0)) (sD l p (at_ + 1) left m (.im (.int at_)) .un .un) = some (.int v) := flat (at_.fmod l.length) _ v p _ _ _ _ (by
          rw [ev_p2, ev_slot3, ev_slot0, Option.bind_some, flle, Option.bind_some]
          exact mod_int hlN) hix0 rfl hv
        rw [ev_seqO, ev_asgO, ev_pur]
        rw [show p2 modD (p2 addD (p2 addD (p2 mulD (flAt 0 (p2 modD (slot 3) (flLen 0))) (fun _ => some (.int 1103515245))) (p2 mulD (fun _ => some (.int 7919)) (slot 3))) (fun _ => some (.int 12345))) (fun _ => some (.int 2147483647)) (sD l p (at_ + 1) left m (.im (.int at_)) .un .un) = some (.int ((v * 1103515245 + 7919 * at_ + 12345).fmod 2147483647)) from by
          rw [ev_p2, ev_p2, ev_p2, ev_p2, fa, Option.bind_some, Option.bind_some, mul_int' (.inr (.inr (by decide))), Option.bind_some, ev_p2, Option.bind_some, ev_slot3, ev_slot0, Option.bind_some, mul_int' (.inr (.inl (by decide))), Option.bind_some, add_int, Option.bind_some, Option.bind_some, add_int, Option.bind_some, Option.bind_some]
          exact mod_int (by decide)]
        simp only [Option.map_some, Option.bind_some, ev_putS, List.set_cons_succ, List.set_cons_zero, ev_thenNx, ev_retO, ev_pur]
        have pw5 : powD (.int ((v * 1103515245 + 7919 * at_ + 12345).fmod 2147483647)) (.int 5) = some (.int ((v * 1103515245 + 7919 * at_ + 12345).fmod 2147483647 ^ 5)) := pow_int ⟨by decide, by decide, by omega⟩
        rw [ev_p2, ev_p2, ev_p2, ev_p2, ev_slot4, ev_slot0, Option.bind_some, Option.bind_some, pw5, Option.bind_some, Option.bind_some, mod_int (by decide), Option.bind_some, Option.bind_some, mod_int (by decide), Option.bind_some, ev_slot2, ev_slot0, Option.bind_some, mod_int hm0]
        simp only [Option.map_some, Option.bind_some, ev_thenRt]
        exact out_eq
end Pr

set_option Elab.async false
set_option linter.all false
set_option maxRecDepth 100000
set_option maxHeartbeats 4000000
namespace Pr
open PySem PySem.Spec PyProof.Rows L2 Pf

/-! ### calls with the town -/
theorem mO_eq {l : List Int} {q : Option Addr} {t t' : List D} {rest : Pf.S} {g : Pf.S → Option D} {x d : D} {fn : List Sl → Ow → Option (Except Addr D × Ow)} (hg : g (.fl l :: .ow q (.lst t) :: rest) = some x) (hf : fn [.fl l, .un, .im x] (.lst t) = some (.ok d, .lst t')) :
    mO 1 1 fn (axFl 0 (axOw 1 (axIm g (fun _ => some [])))) (.fl l :: .ow q (.lst t) :: rest) = some (d, .fl l :: .ow q (.lst t') :: rest) := by
  have e : axFl 0 (axOw 1 (axIm g (fun _ => some []))) (.fl l :: .ow q (.lst t) :: rest) = some [.fl l, .un, .im x] := by
    show (((g (.fl l :: .ow q (.lst t) :: rest)).bind fun d => (some []).bind fun ss => some (Sl.im d :: ss)).bind fun ss => some (Sl.un :: ss)).bind (fun ss => some (Sl.fl l :: ss)) = _
    rw [hg]; rfl
  unfold mO
  simp only [List.getElem?_cons_succ, List.getElem?_cons_zero]
  rw [e]
  dsimp only
  rw [if_pos ⟨rfl, by simp⟩, hf]
  rfl
structure PickOk (K : PySem.W.Frag) (l : List Int) (a b : Int) (s x : D) (a' b' : Int) : Prop where
  e : fn_law_pick K [.fl l, .un, .im s] (.lst [.int a, .int b]) = some (.ok x, .lst [.int a', .int b'])
  a0 : 0 ≤ a'
  b0 : 0 ≤ b'
theorem ev_pick {K : PySem.W.Frag} (l : List Int) {a b : Int} {s : D} {n : Int} {Q : D → Prop} (ha : 0 ≤ a) (hb : 0 ≤ b) (hn : lenD [s] = some (.int n)) (h0 : 0 < n) (h1 : n < 2 ^ 64) (hq : ∀ r : Int, 0 ≤ r → r < n → ∃ x, ixD s (.int r) = some x ∧ Q x) :
    ∃ x a' b', PickOk K l a b s x a' b' ∧ Q x := by
  obtain ⟨r, a', b', D⟩ := ev_draw (K := K) l ha hb h0 h1
  obtain ⟨x, hx, qx⟩ := hq r D.r0 D.r1
  refine ⟨x, a', b', ⟨fnO_eq rfl fun p => ?_, D.a0, D.l0⟩, qx⟩
  show ((g_law_pick K [.fl l, .ow (some p) (.lst [.int a, .int b]), .im s]).bind (outO 1 p)) = _
  unfold g_law_pick
  have e := mO_eq (q := some p) (rest := [.im s]) (g := pA lenD (pCons (slot 2) pNil)) (fn := fn_law_draw K) (t := [.int a, .int b]) (l := l) (x := .int n) (by
    simp only [ev_pA, ev_pCons, ev_pNil, ev_slot2, ev_slot0, Option.bind_some, hn]) D.e
  rw [ev_retO]
  show (((bnd (pur (slot 2)) fun x => bnd (mO 1 1 (fn_law_draw K) (axFl 0 (axOw 1 (axIm (pA lenD (pCons (slot 2) pNil)) (fun _ => some []))))) fun y => lft (ixD x y)) [.fl l, .ow (some p) (.lst [.int a, .int b]), .im s]).map fun p => Out.rt p.1 p.2).bind (outO 1 p) = _
  simp only [ev_bnd, ev_pur, ev_slot2, ev_slot0, Option.map_some, Option.bind_some, e, ev_lft, hx]
  unfold outO ownAt
  simp
/-! ### _law_set -/
theorem c_aabbc : PySem.Str.ofString "aabbc" = tx [97, 97, 98, 98, 99] := by decide +kernel
theorem c_1122 : PySem.Str.ofString "11223344" = tx [49, 49, 50, 50, 51, 51, 52, 52] := by decide +kernel
theorem len_aabbc : lenD [.str (PySem.Str.ofString "aabbc")] = some (.int 5) := by rw [c_aabbc]; rfl
theorem len_1122 : lenD [.str (PySem.Str.ofString "11223344")] = some (.int 8) := by rw [c_1122]; rfl
theorem ix_aabbc (r : Int) (h0 : 0 ≤ r) (h1 : r < 5) : ∃ x, ixD (.str (PySem.Str.ofString "aabbc")) (.int r) = some x ∧ ∃ c, x = dS [c] ∧ c ∈ [97, 98, 99] := by
  have : r = 0 ∨ r = 1 ∨ r = 2 ∨ r = 3 ∨ r = 4 := by omega
  rcases this with rfl | rfl | rfl | rfl | rfl
  · exact ⟨dS [97], by rw [c_aabbc]; rfl, 97, rfl, by simp⟩
  · exact ⟨dS [97], by rw [c_aabbc]; rfl, 97, rfl, by simp⟩
  · exact ⟨dS [98], by rw [c_aabbc]; rfl, 98, rfl, by simp⟩
  · exact ⟨dS [98], by rw [c_aabbc]; rfl, 98, rfl, by simp⟩
  · exact ⟨dS [99], by rw [c_aabbc]; rfl, 99, rfl, by simp⟩
theorem ix_1122 (r : Int) (h0 : 0 ≤ r) (h1 : r < 8) : ∃ x, ixD (.str (PySem.Str.ofString "11223344")) (.int r) = some x ∧ ∃ c, x = dS [c] ∧ c ∈ [49, 50, 51, 52] := by
  have : r = 0 ∨ r = 1 ∨ r = 2 ∨ r = 3 ∨ r = 4 ∨ r = 5 ∨ r = 6 ∨ r = 7 := by omega
  rcases this with rfl | rfl | rfl | rfl | rfl | rfl | rfl | rfl
  · exact ⟨dS [49], by rw [c_1122]; rfl, 49, rfl, by simp⟩
  · exact ⟨dS [49], by rw [c_1122]; rfl, 49, rfl, by simp⟩
  · exact ⟨dS [50], by rw [c_1122]; rfl, 50, rfl, by simp⟩
  · exact ⟨dS [50], by rw [c_1122]; rfl, 50, rfl, by simp⟩
  · exact ⟨dS [51], by rw [c_1122]; rfl, 51, rfl, by simp⟩
  · exact ⟨dS [51], by rw [c_1122]; rfl, 51, rfl, by simp⟩
  · exact ⟨dS [52], by rw [c_1122]; rfl, 52, rfl, by simp⟩
  · exact ⟨dS [52], by rw [c_1122]; rfl, 52, rfl, by simp⟩
theorem shaped_lst {A : List (List Nat)} (h : ∀ l ∈ A, okX l) : SeqAt.shaped (.list (A.map dS)) = true := by
  unfold SeqAt.shaped
  rw [Bool.and_eq_true]
  exact ⟨lay_strs h, decide_eq_true (by show PyData.depthAll (A.map dS) + 1 ≤ 64; rw [dep_strs]; omega)⟩
theorem notin_lst {A : List (List Nat)} {l : List Nat} (hA : ∀ x ∈ A, okX x) (hl : okX l) : notInD (dS l) (.list (A.map dS)) = some (.bool (!decide (l ∈ A))) := by
  unfold notInD
  rw [inB_lst, shaped_str hl, shaped_lst hA, any_strs]
  rfl
theorem shaped_plst {B : List (List Nat × List Nat)} (h : ∀ p ∈ B, okX p.1 ∧ okX p.2) : SeqAt.shaped (.list (B.map dQ)) = true := by
  unfold SeqAt.shaped
  rw [Bool.and_eq_true]
  have := dep_pairs B
  exact ⟨lay_pairs h, decide_eq_true (by show PyData.depthAll (B.map dQ) + 1 ≤ 64; omega)⟩
theorem shaped_pair {p : List Nat × List Nat} (h : okX p.1 ∧ okX p.2) : SeqAt.shaped (dQ p) = true := by
  have := shaped_strs (A := [p.1, p.2]) (fun l hl => by
    simp only [List.mem_cons, List.not_mem_nil, or_false] at hl
    rcases hl with rfl | rfl
    · exact h.1
    · exact h.2)
  exact this
theorem eqv_pair (p q : List Nat × List Nat) : PyData.eqv (dQ p) (dQ q) = decide (p = q) := by
  show (PyData.eqv (dS p.1) (dS q.1) && (PyData.eqv (dS p.2) (dS q.2) && true)) = _
  rw [eqv_str, eqv_str]
  by_cases h1 : p.1 = q.1
  · by_cases h2 : p.2 = q.2
    · rw [decide_eq_true (Prod.ext h1 h2)]; simp [h1, h2]
    · rw [decide_eq_false (p := p = q) fun z => h2 (by rw [z])]; simp [h1, h2]
  · rw [decide_eq_false (p := p = q) fun z => h1 (by rw [z])]; simp [h1]
theorem any_pairs (A : List (List Nat × List Nat)) (p : List Nat × List Nat) : (A.map dQ).any (fun z => PyData.eqv z (dQ p)) = decide (p ∈ A) := by
  rw [List.any_map]
  induction A with
  | nil => simp
  | cons a A ih =>
    rw [List.any_cons, ih]
    simp only [Function.comp, eqv_pair]
    by_cases h1 : a = p
    · simp [h1]
    · by_cases h2 : p ∈ A <;> simp [h1, h2, Ne.symm h1, eq_comm]
theorem notin_plst {B : List (List Nat × List Nat)} {p : List Nat × List Nat} (hB : ∀ x ∈ B, okX x.1 ∧ okX x.2) (hp : okX p.1 ∧ okX p.2) : notInD (dQ p) (.list (B.map dQ)) = some (.bool (!decide (p ∈ B))) := by
  unfold notInD
  rw [show inB (dQ p) (.list (B.map dQ)) = if SeqAt.shaped (dQ p) && SeqAt.shaped (.list (B.map dQ)) then some ((B.map dQ).any fun z => PyData.eqv z (dQ p)) else none from rfl, shaped_pair hp, shaped_plst hB, any_pairs]
  rfl
/-! the first loop -/
abbrev F1 (l : List Int) (m : Int) (p : Addr) (b : Int × Int × List (List Nat) × Sl × Sl) : Pf.S := [.fl l, .ow (some p) (.lst [.int b.1, .int b.2.1]), .im (.int m), b.2.2.2.1, .ow none (.lst (b.2.2.1.map dS)), .ow none (.lst []), b.2.2.2.2, .un]
def G1 (i : Nat) (b : Int × Int × List (List Nat) × Sl × Sl) : Prop := 0 ≤ b.1 ∧ 0 ≤ b.2.1 ∧ b.2.2.1.Nodup ∧ (∀ x ∈ b.2.2.1, tileL x = true) ∧ b.2.2.1.length ≤ i ∧ (1 ≤ i → b.2.2.1 ≠ [])
theorem set_loop1 {K : PySem.W.Frag} (l : List Int) (m : Int) (ds : List D) (hds : ds.length ≤ 1000) (b : Int × Int × List (List Nat) × Sl × Sl) (hb : G1 0 b) :
    ∃ b', G1 ds.length b' ∧ ∀ p, forD (putS 3) (seqO (asgO (m2 addD (mO 1 1 (fn_law_pick K) (axFl 0 (axOw 1 (axIm (fun _ => some (.str (PySem.Str.ofString "aabbc"))) (fun _ => some []))))) (mO 1 1 (fn_law_pick K) (axFl 0 (axOw 1 (axIm (fun _ => some (.str (PySem.Str.ofString "11223344"))) (fun _ => some [])))))) (putS 6)) (ifO (pur (lntT (pTest (p2 notInD (slot 6) (slot 4))))) (appO 4 (slot 6)) (fun δ => some (.nx δ)))) ds (F1 l m p b) = some (.nx (F1 l m p b')) := by
  have := for_uni (F1 l m) G1 (t := putS 3) (g := seqO (asgO (m2 addD (mO 1 1 (fn_law_pick K) (axFl 0 (axOw 1 (axIm (fun _ => some (.str (PySem.Str.ofString "aabbc"))) (fun _ => some []))))) (mO 1 1 (fn_law_pick K) (axFl 0 (axOw 1 (axIm (fun _ => some (.str (PySem.Str.ofString "11223344"))) (fun _ => some [])))))) (putS 6)) (ifO (pur (lntT (pTest (p2 notInD (slot 6) (slot 4))))) (appO 4 (slot 6)) (fun δ => some (.nx δ)))) ds 0 b (fun i d b hi hg => ?_) hb
  · rw [Nat.zero_add] at this; exact this
  · obtain ⟨a0, b0, row, s3, s6⟩ := b
    obtain ⟨g1, g2, g3, g4, g5, g6⟩ := hg
    have hil : i < ds.length := (List.getElem?_eq_some_iff.mp hi).1
    obtain ⟨x1, a1, b1, P1, c1, rfl, hc1⟩ := ev_pick (K := K) l g1 g2 len_aabbc (by omega) (by decide) ix_aabbc
    obtain ⟨x2, a2, b2, P2, c2, rfl, hc2⟩ := ev_pick (K := K) l P1.a0 P1.b0 len_1122 (by omega) (by decide) ix_1122
    have ht : tileL [c1, c2] = true := by
      unfold tileL
      simp only [Bool.and_eq_true, decide_eq_true_eq]
      simp only [List.mem_cons, List.not_mem_nil, or_false] at hc1 hc2 ⊢
      omega
    have okr : ∀ x ∈ row, okX x := fun x hx => (tile_no (g4 x hx)).2.1
    refine ⟨(a2, b2, if [c1, c2] ∈ row then row else row ++ [[c1, c2]], .im d, .im (dS [c1, c2])), ⟨P2.a0, P2.b0, ?_, ?_, ?_, ?_⟩, fun p => ⟨_, rfl, .inl ?_⟩⟩
    · dsimp only
      split
      · exact g3
      · rename_i hn
        rw [List.nodup_append]
        refine ⟨g3, by simp, fun x hx y hy => ?_⟩
        simp only [List.mem_singleton] at hy
        subst hy
        exact fun z => hn (z ▸ hx)
    · dsimp only
      split
      · exact g4
      · intro x hx
        rcases List.mem_append.mp hx with hx | hx
        · exact g4 x hx
        · simp only [List.mem_singleton] at hx; rw [hx]; exact ht
    · dsimp only at g5 ⊢
      split
      · omega
      · rw [List.length_append, List.length_singleton]; omega
    · dsimp only
      intro _
      split
      · rename_i hn
        exact List.ne_nil_of_mem hn
      · simp
    · rw [ev_seqO, ev_asgO]
      have e1 := mO_eq (q := some p) (l := l) (t := [.int a0, .int b0]) (rest := [.im (.int m), .im d, .ow none (.lst (row.map dS)), .ow none (.lst []), s6, .un]) (g := fun _ => some (.str (PySem.Str.ofString "aabbc"))) rfl P1.e
      have e2 := mO_eq (q := some p) (l := l) (t := [.int a1, .int b1]) (rest := [.im (.int m), .im d, .ow none (.lst (row.map dS)), .ow none (.lst []), s6, .un]) (g := fun _ => some (.str (PySem.Str.ofString "11223344"))) rfl P2.e
      show (((bnd (mO 1 1 (fn_law_pick K) _) fun x => bnd (mO 1 1 (fn_law_pick K) _) fun y => lft (addD x y)) [.fl l, .ow (some p) (.lst [.int a0, .int b0]), .im (.int m), .im d, .ow none (.lst (row.map dS)), .ow none (.lst []), s6, .un]).bind _).bind _ = _
      rw [ev_bnd, e1, Option.bind_some]
      dsimp only
      rw [ev_bnd, e2, Option.bind_some]
      dsimp only
      rw [ev_lft, add_str (by simp)]
      simp only [Option.map_some, Option.bind_some, ev_putS, List.set_cons_succ, List.set_cons_zero, ev_thenNx]
      rw [ev_ifO, ev_pur, lntT_eq (d := !decide ([c1, c2] ∈ row)) (by
        show (notInD (dS ([c1] ++ [c2])) (.list (row.map dS))).bind testD = _
        rw [show ([c1] ++ [c2] : List Nat) = [c1, c2] from rfl, notin_lst okr (tile_no ht).2.1]
        rfl)]
      simp only [Option.map_some, Option.bind_some]
      by_cases hm : [c1, c2] ∈ row
      · rw [decide_eq_true hm]
        simp [hm]
      · rw [decide_eq_false hm]
        simp only [Bool.not_false, if_true]
        show (if (row.map dS).length < sizeLine then some (Out.nx _) else none) = _
        rw [if_pos (by rw [List.length_map, sizeLine_eq]; dsimp only at g5; omega)]
        simp [hm, F1]
end Pr

set_option Elab.async false
set_option linter.all false
set_option maxRecDepth 100000
set_option maxHeartbeats 4000000
namespace Pr
open PySem PySem.Spec PyProof.Rows L2 Pf
theorem ix_row {R : List (List Nat)} (r : Int) (h0 : 0 ≤ r) (h1 : r < (R.length : Int)) : ∃ x, ixD (.list (R.map dS)) (.int r) = some x ∧ ∃ t, x = dS t ∧ t ∈ R := by
  have hj : r.toNat < R.length := by omega
  refine ⟨dS R[r.toNat], ?_, _, rfl, List.getElem_mem hj⟩
  show L2.atI (R.map dS) r = _
  rw [atI_map]
  have : L2.atI R r = some R[r.toNat] := by
    unfold L2.atI ixN
    rw [if_pos h0, if_pos h1]
    exact List.getElem?_eq_getElem hj
  rw [this]; rfl
abbrev F2 (l : List Int) (m : Int) (R : List (List Nat)) (s6 : Sl) (p : Addr) (b : Int × Int × List (List Nat × List Nat) × Sl × Sl) : Pf.S := [.fl l, .ow (some p) (.lst [.int b.1, .int b.2.1]), .im (.int m), b.2.2.2.1, .im (.list (R.map dS)), .ow none (.lst (b.2.2.1.map dQ)), s6, b.2.2.2.2]
def G2 (R : List (List Nat)) (i : Nat) (b : Int × Int × List (List Nat × List Nat) × Sl × Sl) : Prop := 0 ≤ b.1 ∧ 0 ≤ b.2.1 ∧ b.2.2.1.Nodup ∧ (∀ x ∈ b.2.2.1, x.1 ∈ R ∧ x.2 ∈ R) ∧ b.2.2.1.length ≤ i
theorem set_loop2 {K : PySem.W.Frag} (l : List Int) (m : Int) (R : List (List Nat)) (hR : ∀ x ∈ R, tileL x = true) (hR0 : R ≠ []) (hR1 : R.length ≤ 1000) (s6 : Sl) (ds : List D) (hds : ds.length ≤ 1000) (b : Int × Int × List (List Nat × List Nat) × Sl × Sl) (hb : G2 R 0 b) :
    ∃ b', G2 R ds.length b' ∧ ∀ p, forD (putS 3) (seqO (asgO (mA tupD (mCons (mO 1 1 (fn_law_pick K) (axFl 0 (axOw 1 (axIm (slot 4) (fun _ => some []))))) (mCons (mO 1 1 (fn_law_pick K) (axFl 0 (axOw 1 (axIm (slot 4) (fun _ => some []))))) mNil))) (putS 7)) (ifO (pur (lntT (pTest (p2 notInD (slot 7) (slot 5))))) (appO 5 (slot 7)) (fun δ => some (.nx δ)))) ds (F2 l m R s6 p b) = some (.nx (F2 l m R s6 p b')) := by
  have := for_uni (F2 l m R s6) (G2 R) (t := putS 3) (g := seqO (asgO (mA tupD (mCons (mO 1 1 (fn_law_pick K) (axFl 0 (axOw 1 (axIm (slot 4) (fun _ => some []))))) (mCons (mO 1 1 (fn_law_pick K) (axFl 0 (axOw 1 (axIm (slot 4) (fun _ => some []))))) mNil))) (putS 7)) (ifO (pur (lntT (pTest (p2 notInD (slot 7) (slot 5))))) (appO 5 (slot 7)) (fun δ => some (.nx δ)))) ds 0 b (fun i d b hi hg => ?_) hb
  · rw [Nat.zero_add] at this; exact this
  · obtain ⟨a0, b0, pairs, s3, s7⟩ := b
    obtain ⟨g1, g2, g3, g4, g5⟩ := hg
    have hil : i < ds.length := (List.getElem?_eq_some_iff.mp hi).1
    have hlen : lenD [.list (R.map dS)] = some (.int R.length) := by rw [ev_len_l, List.length_map]
    have hpos : 0 < R.length := List.length_pos_iff.mpr hR0
    obtain ⟨x1, a1, b1, P1, t1, rfl, ht1⟩ := ev_pick (K := K) l g1 g2 hlen (by omega) (by omega) ix_row
    obtain ⟨x2, a2, b2, P2, t2, rfl, ht2⟩ := ev_pick (K := K) l P1.a0 P1.b0 hlen (by omega) (by omega) ix_row
    have okp : ∀ x ∈ pairs, okX x.1 ∧ okX x.2 := fun x hx => ⟨(tile_no (hR _ (g4 x hx).1)).2.1, (tile_no (hR _ (g4 x hx).2)).2.1⟩
    have okn : okX (t1, t2).1 ∧ okX (t1, t2).2 := ⟨(tile_no (hR _ ht1)).2.1, (tile_no (hR _ ht2)).2.1⟩
    refine ⟨(a2, b2, if (t1, t2) ∈ pairs then pairs else pairs ++ [(t1, t2)], .im d, .im (dQ (t1, t2))), ⟨P2.a0, P2.b0, ?_, ?_, ?_⟩, fun p => ⟨_, rfl, .inl ?_⟩⟩
    · dsimp only
      split
      · exact g3
      · rename_i hn
        rw [List.nodup_append]
        refine ⟨g3, by simp, fun x hx y hy => ?_⟩
        simp only [List.mem_singleton] at hy
        subst hy
        exact fun z => hn (z ▸ hx)
    · dsimp only
      split
      · exact g4
      · intro x hx
        rcases List.mem_append.mp hx with hx | hx
        · exact g4 x hx
        · simp only [List.mem_singleton] at hx; rw [hx]; exact ⟨ht1, ht2⟩
    · dsimp only at g5 ⊢
      split
      · omega
      · rw [List.length_append, List.length_singleton]; omega
    · rw [ev_seqO, ev_asgO]
      have e1 := mO_eq (q := some p) (l := l) (t := [.int a0, .int b0]) (rest := [.im (.int m), .im d, .im (.list (R.map dS)), .ow none (.lst (pairs.map dQ)), s6, s7]) (g := slot 4) (x := .list (R.map dS)) rfl P1.e
      have e2 := mO_eq (q := some p) (l := l) (t := [.int a1, .int b1]) (rest := [.im (.int m), .im d, .im (.list (R.map dS)), .ow none (.lst (pairs.map dQ)), s6, s7]) (g := slot 4) (x := .list (R.map dS)) rfl P2.e
      have e3 : mA tupD (mCons (mO 1 1 (fn_law_pick K) (axFl 0 (axOw 1 (axIm (slot 4) (fun _ => some []))))) (mCons (mO 1 1 (fn_law_pick K) (axFl 0 (axOw 1 (axIm (slot 4) (fun _ => some []))))) mNil)) [.fl l, .ow (some p) (.lst [.int a0, .int b0]), .im (.int m), .im d, .im (.list (R.map dS)), .ow none (.lst (pairs.map dQ)), s6, s7] = some (dQ (t1, t2), [.fl l, .ow (some p) (.lst [.int a2, .int b2]), .im (.int m), .im d, .im (.list (R.map dS)), .ow none (.lst (pairs.map dQ)), s6, s7]) := by
        unfold mA mCons mNil
        simp only [ev_bnd]
        rw [e1, Option.bind_some]
        dsimp only
        rw [e2, Option.bind_some]
        rfl
      show ((mA tupD _ [.fl l, .ow (some p) (.lst [.int a0, .int b0]), .im (.int m), .im d, .im (.list (R.map dS)), .ow none (.lst (pairs.map dQ)), s6, s7]).bind _).bind _ = _
      rw [e3]
      simp only [Option.map_some, Option.bind_some, ev_putS, List.set_cons_succ, List.set_cons_zero, ev_thenNx]
      rw [ev_ifO, ev_pur, lntT_eq (d := !decide ((t1, t2) ∈ pairs)) (by
        show (notInD (dQ (t1, t2)) (.list (pairs.map dQ))).bind testD = _
        rw [notin_plst okp okn]
        rfl)]
      simp only [Option.map_some, Option.bind_some]
      by_cases hm : (t1, t2) ∈ pairs
      · rw [decide_eq_true hm]
        simp [hm]
      · rw [decide_eq_false hm]
        simp only [Bool.not_false, if_true]
        show (if (pairs.map dQ).length < sizeLine then some (Out.nx _) else none) = _
        rw [if_pos (by rw [List.length_map, sizeLine_eq]; dsimp only at g5; omega)]
        simp [hm, F2]
structure SetOk (K : PySem.W.Frag) (l : List Int) (a b m : Int) (A : List (List Nat)) (B : List (List Nat × List Nat)) (a' b' : Int) : Prop where
  e : fn_law_set K [.fl l, .un, .im (.int m)] (.lst [.int a, .int b]) = some (.ok (dU A B), .lst [.int a', .int b'])
  a0 : 0 ≤ a'
  b0 : 0 ≤ b'
  ne : A ≠ []
  la : (A.length : Int) ≤ m
  na : A.Nodup
  ta : ∀ x ∈ A, tileL x = true
  lb : B.length ≤ 4
  nb : B.Nodup
  tb : ∀ p ∈ B, p.1 ∈ A ∧ p.2 ∈ A
theorem range_len {n : Int} (h0 : 0 ≤ n) (h1 : n < 1000) : ∃ ds : List D, range1D [.int n] = some ds ∧ ds.length = n.toNat := by
  refine ⟨_, if_pos ⟨by omega, by omega⟩, by simp⟩
theorem ev_set {K : PySem.W.Frag} (l : List Int) {a b m : Int} (ha : 0 ≤ a) (hb : 0 ≤ b) (hm : 0 < m) (hm2 : m ≤ 5) : ∃ A B a' b', SetOk K l a b m A B a' b' := by
  obtain ⟨r, a1, b1, D1⟩ := ev_draw (K := K) l ha hb hm (by omega)
  obtain ⟨ds1, hd1, hl1⟩ := range_len (n := 1 + r) (by have := D1.r0; omega) (by have := D1.r1; omega)
  obtain ⟨c1, G, e1⟩ := set_loop1 (K := K) l m ds1 (by have := D1.r1; omega) (a1, b1, [], .un, .un) ⟨D1.a0, D1.l0, List.nodup_nil, by simp, by simp, by omega⟩
  obtain ⟨a2, b2, R, s3, s6⟩ := c1
  obtain ⟨g1, g2, g3, g4, g5, g6⟩ := G
  obtain ⟨r2, a3, b3, D2⟩ := ev_draw (K := K) l g1 g2 (m := 5) (by omega) (by omega)
  obtain ⟨ds2, hd2, hl2⟩ := range_len (n := r2) D2.r0 (by have := D2.r1; omega)
  have hr1 := D1.r1
  have hr0 := D1.r0
  have hq0 := D2.r0
  have hq1 := D2.r1
  obtain ⟨c2, G', e2⟩ := set_loop2 (K := K) l m R g4 (g6 (by omega)) (by dsimp only at g5; omega) s6 ds2 (by omega) (a3, b3, [], s3, .un) ⟨D2.a0, D2.l0, List.nodup_nil, by simp, by simp⟩
  obtain ⟨a4, b4, B, t3, t7⟩ := c2
  obtain ⟨k1, k2, k3, k4, k5⟩ := G'
  refine ⟨R, B, a4, b4, ⟨fnO_eq rfl fun p => ?_, k1, k2, g6 (by omega), by dsimp only at g5; omega, g3, g4, by dsimp only at k5; omega, k3, k4⟩⟩
  show ((g_law_set K [.fl l, .ow (some p) (.lst [.int a, .int b]), .im (.int m), .un, .un, .un, .un, .un]).bind (outO 1 p)) = _
  unfold g_law_set
  rw [ev_seqO]
  rw [show parV 4 5 (vsCons (vLst pNil) (vsCons (vLst pNil) (fun δ => some ([], δ)))) [.fl l, .ow (some p) (.lst [.int a, .int b]), .im (.int m), .un, .un, .un, .un, .un] = some (.nx [.fl l, .ow (some p) (.lst [.int a, .int b]), .im (.int m), .un, .ow none (.lst []), .ow none (.lst []), .un, .un]) from rfl, Option.bind_some, ev_thenNx, ev_seqO, ev_forO]
  have f1 := mO_eq (q := some p) (l := l) (t := [.int a, .int b]) (rest := [.im (.int m), .un, .ow none (.lst []), .ow none (.lst []), .un, .un]) (g := slot 2) (x := .int m) rfl D1.e
  have h1 : mLst range1D (mCons (m2 addD (pur (fun _ => some (.int 1))) (mO 1 1 (fn_law_draw K) (axFl 0 (axOw 1 (axIm (slot 2) (fun _ => some [])))))) mNil) [.fl l, .ow (some p) (.lst [.int a, .int b]), .im (.int m), .un, .ow none (.lst []), .ow none (.lst []), .un, .un] = some (ds1, F1 l m p (a1, b1, [], .un, .un)) := by
    unfold mLst mCons mNil m2
    simp only [ev_bnd, ev_pur, Option.map_some, Option.bind_some]
    rw [f1, Option.bind_some]
    simp only [ev_lft, add_int, Option.map_some, Option.bind_some, ev_ret]
    rw [hd1]
    rfl
  rw [h1, Option.bind_some]
  dsimp only
  rw [e1 p, Option.bind_some, ev_thenNx]
  show ((seqO _ _ [.fl l, .ow (some p) (.lst [.int a2, .int b2]), .im (.int m), s3, .im (.list (R.map dS)), .ow none (.lst []), s6, .un]).bind (outO 1 p)) = _
  rw [ev_seqO, ev_forO]
  have f2 := mO_eq (q := some p) (l := l) (t := [.int a2, .int b2]) (rest := [.im (.int m), s3, .im (.list (R.map dS)), .ow none (.lst []), s6, .un]) (g := fun _ => some (.int 5)) (x := .int 5) rfl D2.e
  have h2 : mLst range1D (mCons (mO 1 1 (fn_law_draw K) (axFl 0 (axOw 1 (axIm (fun _ => some (.int 5)) (fun _ => some []))))) mNil) [.fl l, .ow (some p) (.lst [.int a2, .int b2]), .im (.int m), s3, .im (.list (R.map dS)), .ow none (.lst []), s6, .un] = some (ds2, F2 l m R s6 p (a3, b3, [], s3, .un)) := by
    unfold mLst mCons mNil
    simp only [ev_bnd]
    rw [f2, Option.bind_some]
    simp only [ev_lft, Option.map_some, Option.bind_some, ev_ret]
    rw [hd2]
    rfl
  rw [h2, Option.bind_some]
  dsimp only
  rw [e2 p, Option.bind_some, ev_thenNx]
  show ((retO (pur (pA tupD (pCons (pA tupleD (pCons (slot 4) pNil)) (pCons (pA tupleD (pCons (slot 5) pNil)) pNil)))) [.fl l, .ow (some p) (.lst [.int a4, .int b4]), .im (.int m), t3, .im (.list (R.map dS)), .im (.list (B.map dQ)), s6, t7]).bind (outO 1 p)) = _
  simp only [ev_retO, ev_pur, ev_pA, ev_pCons, ev_pNil, ev_slot4, ev_slot5, ev_slot0, Option.bind_some, tup_lst]
  show (outO 1 p (.rt (dU R B) [.fl l, .ow (some p) (.lst [.int a4, .int b4]), .im (.int m), t3, .im (.list (R.map dS)), .im (.list (B.map dQ)), s6, t7])) = _
  unfold outO ownAt
  simp
end Pr

set_option Elab.async false
set_option linter.all false
set_option maxRecDepth 100000
set_option maxHeartbeats 4000000
namespace Pr
open PySem PySem.Spec PyProof.Rows L2 Pf
/-! ### the drawn set is a set -/
theorem many_nodup {κ : Type} [DecidableEq κ] : ∀ (ks L : List κ), ks.Nodup → (∀ k ∈ ks, k ∉ L) → (many ks L).length = ks.length + L.length
  | [], L, _, _ => by simp [many]
  | k :: ks, L, h, h2 => by
    unfold many ins
    rw [if_neg (h2 k (by simp)), many_nodup ks (k :: L) (List.nodup_cons.mp h).2 (fun j hj z => by
      rcases List.mem_cons.mp z with rfl | z
      · exact (List.nodup_cons.mp h).1 hj
      · exact h2 j (by simp [hj]) z)]
    simp; omega
theorem tx_inj {l m : List Nat} (h : tx l = tx m) : l = m := by
  have := congrArg (fun z : Str => z.cps.toList) h
  simpa using this
theorem nodup_map {α β : Type} {f : α → β} (hf : ∀ a b, f a = f b → a = b) {l : List α} (h : l.Nodup) : (l.map f).Nodup := by
  rw [List.nodup_iff_pairwise_ne, List.pairwise_map]
  exact List.Pairwise.imp (fun hab z => hab (hf _ _ z)) h
theorem set_is {A : List (List Nat)} {B : List (List Nat × List Nat)} (h0 : A ≠ []) (h1 : A.length ≤ 5) (h2 : A.Nodup) (h3 : ∀ x ∈ A, tileL x = true) (h4 : B.length ≤ 12) (h5 : B.Nodup) (h6 : ∀ p ∈ B, p.1 ∈ A ∧ p.2 ∈ A) : setB A (B.map pr) = true := by
  have hpos : 0 < A.length := List.length_pos_iff.mpr h0
  unfold setB
  simp only [Bool.and_eq_true, decide_eq_true_eq, List.all_eq_true]
  refine ⟨⟨hpos, h1⟩, h3, ?_, by simpa using h4, ?_, ?_⟩
  · unfold nodS
    rw [decide_eq_true_eq, many_nodup _ _ (nodup_map (fun a b => tx_inj) h2) (by simp)]
    simp
  · intro ws hw
    obtain ⟨p, hp, rfl⟩ := List.mem_map.mp hw
    unfold pairB
    simp [h6 p hp, h3 _ (h6 p hp).1, h3 _ (h6 p hp).2]
  · unfold nodP
    rw [decide_eq_true_eq, List.map_map, many_nodup _ _ (nodup_map (f := (fun ws => ws.map tx) ∘ pr) (fun a b hab => by
      have : [tx a.1, tx a.2] = [tx b.1, tx b.2] := hab
      simp only [List.cons.injEq, and_true] at this
      exact Prod.ext (tx_inj this.1) (tx_inj this.2)) h5) (by simp)]
    simp
theorem SetOk.is {K : PySem.W.Frag} {l : List Int} {a b : Int} {A : List (List Nat)} {B : List (List Nat × List Nat)} {a' b' : Int} (h : SetOk K l a b 5 A B a' b') : setB A (B.map pr) = true := set_is h.ne (by have := h.la; omega) h.na h.ta (by have := h.lb; omega) h.nb h.tb
/-! ### the answers -/
theorem is_set_U {K : PySem.W.Frag} {A : List (List Nat)} {B : List (List Nat × List Nat)} (hs : setB A (B.map pr) = true) (hA : ∀ x ∈ A, okX x) (hB : ∀ p ∈ B, okX p.1 ∧ okX p.2) : fn_is_set K [dU A B] = some (.bool true) := by
  rw [dU_eq, ev_is_set A (B.map pr) hA (fun ws hw x hx => by
    obtain ⟨p, hp, rfl⟩ := List.mem_map.mp hw
    simp only [List.mem_cons, List.not_mem_nil, or_false] at hx
    rcases hx with rfl | rfl
    · exact (hB p hp).1
    · exact (hB p hp).2), hs]
def unpr (ws : List (List Nat)) : List Nat × List Nat := (ws.getD 0 [], ws.getD 1 [])
def badL (l : List Nat) : Bool := !(setB (pA' l) (pB' l)) || !(fmtL (pA' l) ((pB' l).map unpr) == l)
theorem unpr_pr (B : List (List Nat × List Nat)) : (B.map pr).map unpr = B := by
  rw [List.map_map]
  exact (List.map_congr_left fun p _ => rfl).trans (List.map_id _)
theorem ask_bad {K : PySem.W.Frag} (kf : KF K) {l : List Nat} (h : okX l) (hb : badL l = true) : fn_law_ask K [.int 1, dS l] = some (raised 8) := by
  have e := ev_ask (K := K) 1 (by omega) (dS l)
  rw [show ((1 : Nat) : Int) = 1 from rfl, if_neg (by omega)] at e
  rw [e]
  rcases ev_parse (K := K) h with ⟨p1, _⟩ | ⟨Bp, b1, b2, b3, _⟩
  · rw [p1]
    exact which8 kf
  · exfalso
    unfold badL at hb
    rw [b2, b1, unpr_pr, b3] at hb
    simp at hb
theorem ask_any {K : PySem.W.Frag} (kf : KF K) {l : List Nat} (h : okX l) : fn_law_ask K [.int 1, dS l] = some (raised 8) ∨ ∃ A B, fn_law_ask K [.int 1, dS l] = some (dU A B) ∧ fn_is_set K [dU A B] = some (.bool true) ∧ fn_law_text K [dU A B] = some (dS l) ∧ (∀ x ∈ A, okX x) ∧ ∀ p ∈ B, okX p.1 ∧ okX p.2 := by
  have e := ev_ask (K := K) 1 (by omega) (dS l)
  rw [show ((1 : Nat) : Int) = 1 from rfl, if_neg (by omega)] at e
  rw [e]
  rcases ev_parse (K := K) h with ⟨p1, _⟩ | ⟨Bp, b1, b2, b3, sm, ok, b4⟩
  · rw [p1]
    exact .inl (which8 kf)
  · rw [b4]
    refine .inr ⟨pA' l, Bp, rfl, is_set_U (by rw [← b1]; exact b2) (pA_ok h) ok, ?_, pA_ok h, ok⟩
    rw [ev_law_text sm ok, b3]
theorem ask_no {K : PySem.W.Frag} (kf : KF K) {d : D} (h : noDic d = true) (hs : isStrD d = false) : fn_law_ask K [.int 1, d] = some (raised 8) := by
  have e := ev_ask (K := K) 1 (by omega) d
  rw [show ((1 : Nat) : Int) = 1 from rfl, if_neg (by omega)] at e
  rw [e, ev_parse_no h hs]
  exact which8 kf
theorem ask0_no {K : PySem.W.Frag} (kf : KF K) {d : D} (h : fn_is_set K [d] = some (.bool false)) : fn_law_ask K [.int 0, d] = some (raised 0) := by
  have e := ev_ask (K := K) 0 (by omega) d
  rw [show ((0 : Nat) : Int) = 0 from rfl, if_pos rfl] at e
  rw [e, ev_format_no h]
  exact which0 kf
theorem ask0_yes {K : PySem.W.Frag} {d t : D} (h : fn_is_set K [d] = some (.bool true)) (ht : fn_formatted K [d] = some t) : fn_law_ask K [.int 0, d] = some t := by
  have e := ev_ask (K := K) 0 (by omega) d
  rw [show ((0 : Nat) : Int) = 0 from rfl, if_pos rfl] at e
  rw [e, ev_format h ht]
  rfl
theorem is_set_no1 {K : PySem.W.Frag} {d : D} (h : noDic d = true) (hs : isTupD d = false) : fn_is_set K [d] = some (.bool false) := by
  unfold fn_is_set
  rw [runP_eq (δ := [.im d, .un, .un, .un, .un, .un]) rfl rfl]
  unfold g_is_set
  simp only [ev_seqO, ev_ifO, ev_pur, ev_pOrT, ev_pNotT, ev_pTest, ev_p1, ev_slot0, Option.bind_some, isi_tup h, hs, ev_testB, Option.map_some, Bool.not_false, if_true, ev_retO, ev_thenRt, ev_outRt]
theorem is_set_no2 {K : PySem.W.Frag} {ds : List D} (h : ds.length ≠ 2) : fn_is_set K [.tuple ds] = some (.bool false) := by
  unfold fn_is_set
  rw [runP_eq (δ := [.im (.tuple ds), .un, .un, .un, .un, .un]) rfl rfl]
  unfold g_is_set
  have e : ((ds.length : Int) == 2) = false := by rw [beq_eq_false_iff_ne]; omega
  simp only [ev_seqO, ev_ifO, ev_pur, ev_pOrT, ev_pNotT, ev_pTest, ev_p1, ev_p2, ev_pA, ev_pCons, ev_pNil, ev_slot0, Option.bind_some, isi_tup (d := .tuple ds) rfl, isTupD, ev_testB, Option.map_some, Bool.not_true, Bool.false_eq_true, if_false, ev_len_t, ne_int, e, Bool.not_false, if_true, ev_retO, ev_thenRt, ev_outRt]
/-! ### cuts -/
theorem cut_ok {t : List Nat} (h : okX t) (lo hi : Option Int) : ∃ m, slD (dS t) lo hi = some (dS m) ∧ okX m ∧ m.length ≤ t.length := by
  refine ⟨(t.drop (HT.sIx t.length 0 lo)).take (HT.sIx t.length t.length hi - HT.sIx t.length 0 lo), ?_, ⟨?_, fun k hk => ?_⟩, ?_⟩
  · show (if (tx t).length ≤ sizeLine then some (PyData.str (cutS (tx t) lo hi)) else none) = _
    rw [if_pos (by rw [tx_len]; exact h.line)]
    unfold cutS
    rw [tx_len]
  · rw [List.length_take, List.length_drop]
    have := h.1
    omega
  · exact h.2 k (List.mem_of_mem_drop (List.mem_of_mem_take hk))
  · rw [List.length_take, List.length_drop]
    omega
/-! ### the loop of bent texts -/
abbrev chars : List D := [.str (PySem.Str.ofString ""), .str (PySem.Str.ofString "a"), .str (PySem.Str.ofString "1"), .str (PySem.Str.ofString "4"), .str (PySem.Str.ofString "5"), .str (PySem.Str.ofString " "), .str (PySem.Str.ofString "|"), .str (PySem.Str.ofString ">"), .str (PySem.Str.ofString "b"), .str (PySem.Str.ofString " a1")]
abbrev charsL : List (List Nat) := [[], [97], [49], [52], [53], [32], [124], [62], [98], [32, 97, 49]]
theorem chars_eq : chars = charsL.map dS := by
  show [_, _, _, _, _, _, _, _, _, _] = [dS [], dS [97], dS [49], dS [52], dS [53], dS [32], dS [124], dS [62], dS [98], dS [32, 97, 49]]
  rw [show PySem.Str.ofString "" = tx [] from by decide +kernel, show PySem.Str.ofString "a" = tx [97] from by decide +kernel, show PySem.Str.ofString "1" = tx [49] from by decide +kernel, show PySem.Str.ofString "4" = tx [52] from by decide +kernel, show PySem.Str.ofString "5" = tx [53] from by decide +kernel, show PySem.Str.ofString " " = tx [32] from by decide +kernel, show PySem.Str.ofString "|" = tx [124] from by decide +kernel, show PySem.Str.ofString ">" = tx [62] from by decide +kernel, show PySem.Str.ofString "b" = tx [98] from by decide +kernel, show PySem.Str.ofString " a1" = tx [32, 97, 49] from by decide +kernel]
theorem chars_ok : ∀ x ∈ charsL, okX x ∧ x.length ≤ 3 := by
  intro x hx
  simp only [charsL, List.mem_cons, List.not_mem_nil, or_false] at hx
  rcases hx with rfl | rfl | rfl | rfl | rfl | rfl | rfl | rfl | rfl | rfl <;> exact ⟨⟨by decide, by decide⟩, by decide⟩
abbrev gChars : Pf.S → Option D := pA lstD (pCons (fun _ => some (.str (PySem.Str.ofString ""))) (pCons (fun _ => some (.str (PySem.Str.ofString "a"))) (pCons (fun _ => some (.str (PySem.Str.ofString "1"))) (pCons (fun _ => some (.str (PySem.Str.ofString "4"))) (pCons (fun _ => some (.str (PySem.Str.ofString "5"))) (pCons (fun _ => some (.str (PySem.Str.ofString " "))) (pCons (fun _ => some (.str (PySem.Str.ofString "|"))) (pCons (fun _ => some (.str (PySem.Str.ofString ">"))) (pCons (fun _ => some (.str (PySem.Str.ofString "b"))) (pCons (fun _ => some (.str (PySem.Str.ofString " a1"))) pNil))))))))))
noncomputable abbrev gBody (K : PySem.W.Frag) : Pf.S → Option Out := seqO (asgO (mO 1 1 (fn_law_draw K) (axFl 0 (axOw 1 (axIm (p2 addD (pA lenD (pCons (slot 3) pNil)) (fun _ => some (.int 1))) (fun _ => some []))))) (putS 6)) (seqO (asgO (mO 1 1 (fn_law_pick K) (axFl 0 (axOw 1 (axIm gChars (fun _ => some []))))) (putS 7)) (seqO (asgO (m2 addD (pur (p2 addD (pSl slD (slot 3) (fun _ => some none) (pPart (slot 6))) (slot 7))) (mSl slD (pur (slot 3)) (mPart (m2 addD (pur (slot 6)) (mO 1 1 (fn_law_draw K) (axFl 0 (axOw 1 (axIm (fun _ => some (.int 2)) (fun _ => some []))))))) (ret none))) (putS 8)) (seqO (asgO (pur (pA (fn_law_ask K) (pCons (fun _ => some (.int 1)) (pCons (slot 8) pNil)))) (putS 9)) (ifO (pur (pAndT (pTest (p2 neD (slot 9) (pA tupD (pCons (fun _ => some (.str (PySem.Str.ofString "raised"))) (pCons (fun _ => some (.int 8)) pNil))))) (pOrT (pTest (p2 isNotD (pA (fn_is_set K) (pCons (slot 9) pNil)) (fun _ => some (.bool true)))) (pTest (p2 neD (pA (fn_law_text K) (pCons (slot 9) pNil)) (slot 8)))))) (retO (pur (fun _ => some (.bool false)))) (fun δ => some (.nx δ))))))
theorem c_raised : PySem.Str.ofString "raised" = tx [114, 97, 105, 115, 101, 100] := by decide +kernel
theorem shaped_raised (i : Int) : SeqAt.shaped (raised i) = true := by
  unfold raised
  rw [c_raised]
  unfold SeqAt.shaped
  rw [Bool.and_eq_true]
  refine ⟨?_, decide_eq_true (by show (max 0 (max 0 0)) + 1 ≤ 64; decide)⟩
  show (PyData.canLay0 (dS [114, 97, 105, 115, 101, 100]) && (PyData.canLay0 (.int i) && true)) = true
  rw [lay_str ⟨by decide, by decide⟩]
  rfl
theorem shaped_U {A : List (List Nat)} {B : List (List Nat × List Nat)} (hA : ∀ x ∈ A, okX x) (hB : ∀ p ∈ B, okX p.1 ∧ okX p.2) : SeqAt.shaped (dU A B) = true := by
  unfold SeqAt.shaped
  rw [Bool.and_eq_true]
  refine ⟨?_, decide_eq_true ?_⟩
  · show (PyData.canLayAll0 (A.map dS) && (PyData.canLayAll0 (B.map dQ) && true)) = true
    rw [lay_strs hA, lay_pairs hB]; rfl
  · have := dep_pairs B
    show max (PyData.depthAll (A.map dS) + 1) (max (PyData.depthAll (B.map dQ) + 1) 0) + 1 ≤ 64
    rw [dep_strs]
    omega
abbrev F3 (l : List Int) (U : D) (T : List Nat) (_p : Addr) (b : Int × Int × Sl × Sl × Sl × Sl × Sl) : Pf.S := [.fl l, .ow none (.lst [.int b.1, .int b.2.1]), .im U, .im (dS T), b.2.2.1, .un, b.2.2.2.1, b.2.2.2.2.1, b.2.2.2.2.2.1, b.2.2.2.2.2.2, .un]
theorem bent_loop {K : PySem.W.Frag} (kf : KF K) (l : List Int) (U : D) (T : List Nat) (hT : okX T) (hT2 : T.length ≤ 1000) (ds : List D) (b : Int × Int × Sl × Sl × Sl × Sl × Sl) (hb : 0 ≤ b.1 ∧ 0 ≤ b.2.1) :
    ∃ b' : Int × Int × Sl × Sl × Sl × Sl × Sl, (0 ≤ b'.1 ∧ 0 ≤ b'.2.1) ∧ ∀ p, forD (putS 4) (gBody K) ds (F3 l U T p b) = some (.nx (F3 l U T p b')) := by
  refine for_uni (F3 l U T) (fun _ b => 0 ≤ b.1 ∧ 0 ≤ b.2.1) (t := putS 4) (g := gBody K) ds 0 b (fun i d b hi hg => ?_) hb
  obtain ⟨a0, b0, s4, s6, s7, s8, s9⟩ := b
  obtain ⟨g1, g2⟩ := hg
  obtain ⟨r1, a1, b1, D1⟩ := ev_draw (K := K) l g1 g2 (m := (T.length : Int) + 1) (by omega) (by omega)
  have hlen : lenD [.list chars] = some (.int 10) := rfl
  obtain ⟨x2, a2, b2, P2, t2, rfl, ht2⟩ := ev_pick (K := K) l (s := .list chars) D1.a0 D1.l0 hlen (by omega) (by omega) (fun r h0 h1 => by
    rw [chars_eq]; exact ix_row (R := charsL) r h0 (by simpa using h1))
  obtain ⟨r3, a3, b3, D3⟩ := ev_draw (K := K) l P2.a0 P2.b0 (m := 2) (by omega) (by omega)
  obtain ⟨m1, e1, ok1, l1⟩ := cut_ok hT none (some r1)
  obtain ⟨m2', e2, ok2, l2⟩ := cut_ok hT (some (r1 + r3)) none
  have okt := chars_ok t2 ht2
  have okb : okX (m1 ++ t2 ++ m2') := by
    refine ⟨by simp only [List.length_append]; omega, fun k hk => ?_⟩
    simp only [List.mem_append] at hk
    rcases hk with (hk | hk) | hk
    · exact ok1.2 k hk
    · exact okt.1.2 k hk
    · exact ok2.2 k hk
  obtain ⟨told, ht⟩ : ∃ told, fn_law_ask K [.int 1, dS (m1 ++ t2 ++ m2')] = some told := by
    rcases ask_any kf okb with h | ⟨A, B, h, _⟩
    · exact ⟨_, h⟩
    · exact ⟨_, h⟩
  refine ⟨(a3, b3, .im d, .im (.int r1), .im (dS t2), .im (dS (m1 ++ t2 ++ m2')), .im told), ⟨D3.a0, D3.l0⟩, fun p => ⟨_, rfl, .inl ?_⟩⟩
  show gBody K [.fl l, .ow none (.lst [.int a0, .int b0]), .im U, .im (dS T), .im d, .un, s6, s7, s8, s9, .un] = _
  have f1 := mO_eq (q := none) (l := l) (t := [.int a0, .int b0]) (rest := [.im U, .im (dS T), .im d, .un, s6, s7, s8, s9, .un]) (g := p2 addD (pA lenD (pCons (slot 3) pNil)) (fun _ => some (.int 1))) (x := .int ((T.length : Int) + 1)) (by
    simp only [ev_p2, ev_pA, ev_pCons, ev_pNil, ev_slot3, ev_slot0, Option.bind_some]
    rw [ev_len_s (by rw [tx_len]; exact hT.line), tx_len]
    rfl) D1.e
  have f2 := mO_eq (q := none) (l := l) (t := [.int a1, .int b1]) (rest := [.im U, .im (dS T), .im d, .un, .im (.int r1), s7, s8, s9, .un]) (g := gChars) (x := .list chars) rfl P2.e
  have f3 := mO_eq (q := none) (l := l) (t := [.int a2, .int b2]) (rest := [.im U, .im (dS T), .im d, .un, .im (.int r1), .im (dS t2), s8, s9, .un]) (g := fun _ => some (.int 2)) (x := .int 2) rfl D3.e
  unfold gBody
  rw [ev_seqO, ev_asgO, f1]
  simp only [Option.bind_some, Option.map_some, ev_putS, List.set_cons_succ, List.set_cons_zero, ev_thenNx]
  rw [ev_seqO, ev_asgO, f2]
  simp only [Option.bind_some, Option.map_some, ev_putS, List.set_cons_succ, List.set_cons_zero, ev_thenNx]
  rw [ev_seqO, ev_asgO]
  have f4 : m2 addD (pur (p2 addD (pSl slD (slot 3) (fun _ => some none) (pPart (slot 6))) (slot 7))) (mSl slD (pur (slot 3)) (mPart (m2 addD (pur (slot 6)) (mO 1 1 (fn_law_draw K) (axFl 0 (axOw 1 (axIm (fun _ => some (.int 2)) (fun _ => some []))))))) (ret none)) [.fl l, .ow none (.lst [.int a2, .int b2]), .im U, .im (dS T), .im d, .un, .im (.int r1), .im (dS t2), s8, s9, .un] = some (dS (m1 ++ t2 ++ m2'), [.fl l, .ow none (.lst [.int a3, .int b3]), .im U, .im (dS T), .im d, .un, .im (.int r1), .im (dS t2), s8, s9, .un]) := by
    unfold m2 mSl mPart
    simp only [ev_bnd, ev_pur, ev_p2, ev_pSl, ev_pPart, ev_slot3, ev_slot6, ev_slot7, ev_slot0, Option.bind_some, ev_intO, e1, Option.map_some]
    rw [add_str (by omega)]
    simp only [Option.map_some, Option.bind_some, ev_slot3, ev_slot6, ev_slot0]
    rw [f3]
    simp only [Option.map_some, Option.bind_some, ev_lft, add_int, ev_intO, ev_ret, e2]
    rw [add_str (by simp only [List.length_append]; omega)]
    rfl
  rw [f4]
  simp only [Option.bind_some, Option.map_some, ev_putS, List.set_cons_succ, List.set_cons_zero, ev_thenNx]
  rw [ev_seqO, ev_asgO, ev_pur, ev_pA, ev_pCons, Option.bind_some, ev_pCons, ev_slot8, ev_slot0, Option.bind_some, ev_pNil, Option.bind_some, Option.bind_some, Option.bind_some, ht]
  simp only [Option.bind_some, Option.map_some, ev_putS, List.set_cons_succ, List.set_cons_zero, ev_thenNx]
  have test : pAndT (pTest (p2 neD (slot 9) (pA tupD (pCons (fun _ => some (.str (PySem.Str.ofString "raised"))) (pCons (fun _ => some (.int 8)) pNil))))) (pOrT (pTest (p2 isNotD (pA (fn_is_set K) (pCons (slot 9) pNil)) (fun _ => some (.bool true)))) (pTest (p2 neD (pA (fn_law_text K) (pCons (slot 9) pNil)) (slot 8)))) [.fl l, .ow none (.lst [.int a3, .int b3]), .im U, .im (dS T), .im d, .un, .im (.int r1), .im (dS t2), .im (dS (m1 ++ t2 ++ m2')), .im told, .un] = some false := by
    have s9 : slot 9 [.fl l, .ow none (.lst [.int a3, .int b3]), .im U, .im (dS T), .im d, .un, .im (.int r1), .im (dS t2), .im (dS (m1 ++ t2 ++ m2')), .im told, .un] = some told := rfl
    have s8 : slot 8 [.fl l, .ow none (.lst [.int a3, .int b3]), .im U, .im (dS T), .im d, .un, .im (.int r1), .im (dS t2), .im (dS (m1 ++ t2 ++ m2')), .im told, .un] = some (dS (m1 ++ t2 ++ m2')) := rfl
    have tr : pA tupD (pCons (fun _ => some (.str (PySem.Str.ofString "raised"))) (pCons (fun _ => some (.int 8)) pNil)) [.fl l, .ow none (.lst [.int a3, .int b3]), .im U, .im (dS T), .im d, .un, .im (.int r1), .im (dS t2), .im (dS (m1 ++ t2 ++ m2')), .im told, .un] = some (raised 8) := rfl
    rw [ev_pAndT, ev_pTest, ev_p2, s9, Option.bind_some, tr, Option.bind_some]
    rcases ask_any kf okb with h | ⟨A, B, h, hs, htx, hA, hB⟩
    · rw [h] at ht; cases ht
      have : neD (raised 8) (raised 8) = some (.bool false) := by
        unfold neD
        rw [shaped_raised]
        show some (PyData.bool (!((PySem.Str.ofString "raised" == PySem.Str.ofString "raised") && (((8 : Int) == 8) && true)))) = _
        rw [beq_self_eq_true]
        rfl
      rw [this]
      rfl
    · rw [h] at ht; cases ht
      have : neD (dU A B) (raised 8) = some (.bool true) := by
        unfold neD
        rw [shaped_raised, shaped_U hA hB]
        rfl
      rw [this, Option.bind_some, ev_testB, Option.bind_some, if_pos rfl, ev_pOrT, ev_pTest, ev_p2, ev_pA, ev_pCons, s9, Option.bind_some, ev_pNil, Option.bind_some, Option.bind_some, hs, Option.bind_some, Option.bind_some]
      rw [show isNotD (.bool true) (.bool true) = some (.bool false) from rfl, Option.bind_some, ev_testB, Option.bind_some, if_neg (by simp), ev_pTest, ev_p2, ev_pA, ev_pCons, s9, Option.bind_some, ev_pNil, Option.bind_some, Option.bind_some, htx, Option.bind_some, s8, Option.bind_some, ne_str okb okb]
      simp
  rw [ev_ifO, ev_pur, test]
  rfl
end Pr

set_option Elab.async false
set_option linter.all false
set_option maxRecDepth 100000
set_option maxHeartbeats 4000000
namespace Pr
open PySem PySem.Spec PyProof.Rows L2 Pf
mutual
theorem eqv_refl : ∀ d : D, PyData.canLay0 d = true → PyData.eqv d d = true
  | .none, _ => rfl
  | .bool b, _ => by cases b <;> rfl
  | .int i, _ => by simp [PyData.eqv]
  | .str x, _ => by simp [PyData.eqv]
  | .list xs, h => by simp only [PyData.eqv]; exact eqvAll_refl xs (by simpa only [PyData.canLay0] using h)
  | .tuple xs, h => by simp only [PyData.eqv]; exact eqvAll_refl xs (by simpa only [PyData.canLay0] using h)
  | .dict _, h => by simp [PyData.canLay0] at h
theorem eqvAll_refl : ∀ ds : List D, PyData.canLayAll0 ds = true → PyData.eqvAll ds ds = true
  | [], _ => rfl
  | d :: ds, h => by
    simp only [PyData.canLayAll0, Bool.and_eq_true] at h
    simp only [PyData.eqvAll, eqv_refl d h.1, eqvAll_refl ds h.2, Bool.and_self]
end
theorem ne_refl {d : D} (h : SeqAt.shaped d = true) : neD d d = some (.bool false) := by
  unfold neD
  rw [h, eqv_refl d (SeqAt.canLay_of_shaped h)]
  rfl
theorem eq_refl' {d : D} (h : SeqAt.shaped d = true) : eqD d d = some (.bool true) := by
  unfold eqD
  rw [h, eqv_refl d (SeqAt.canLay_of_shaped h)]
  rfl
theorem rep_lay (i : Int) : ∀ n : Nat, PyData.canLayAll0 (List.replicate n (raised i)) = true ∧ PyData.depthAll (List.replicate n (raised i)) ≤ 1
  | 0 => ⟨rfl, by simp [PyData.depthAll]⟩
  | n + 1 => by
    obtain ⟨a, b⟩ := rep_lay i n
    have e : PyData.depth (raised i) = 1 := rfl
    rw [List.replicate_succ]
    refine ⟨?_, ?_⟩
    · show (PyData.canLay0 (raised i) && PyData.canLayAll0 (List.replicate n (raised i))) = true
      rw [SeqAt.canLay_of_shaped (shaped_raised i), a]; rfl
    · show max (PyData.depth (raised i)) (PyData.depthAll (List.replicate n (raised i))) ≤ 1
      rw [e]; omega
theorem shaped_rep (i : Int) (n : Nat) : SeqAt.shaped (.list (List.replicate n (raised i))) = true := by
  unfold SeqAt.shaped
  rw [Bool.and_eq_true]
  obtain ⟨a, b⟩ := rep_lay i n
  exact ⟨a, decide_eq_true (by show PyData.depthAll _ + 1 ≤ 64; omega)⟩
theorem mul_rep (i : Int) (n : Nat) (hn : n ≤ 1000) : mulD (.list [raised i]) (.int n) = some (.list (List.replicate n (raised i))) := by
  unfold mulD
  dsimp only
  rw [if_pos ⟨by omega, by omega, by rw [sizeLine_eq]; simp; omega⟩]
  simp only [Int.toNat_natCast]
  congr 2
  induction n with
  | zero => rfl
  | succ n ih => rw [List.replicate_succ, List.replicate_succ, List.flatten_cons, ih (by omega)]; rfl
def okB (z : Str) : Bool := decide (z.cps.toList.length ≤ 100000) && (z.cps.toList.all (fun c => decide (c < 1114112)) && badL z.cps.toList)
theorem ask_badS {K : PySem.W.Frag} (kf : KF K) (z : Str) (h : okB z = true) : fn_law_ask K [.int 1, .str z] = some (raised 8) := by
  unfold okB at h
  simp only [Bool.and_eq_true, decide_eq_true_eq, List.all_eq_true] at h
  have := ask_bad kf (l := z.cps.toList) ⟨h.1, h.2.1⟩ h.2.2
  rw [show dS z.cps.toList = .str z from congrArg PyData.str (tx_of z).symm] at this
  exact this
abbrev bad1 : List D := [.str (PySem.Str.ofString ""), .str (PySem.Str.ofString " "), .str (PySem.Str.ofString "a"), .str (PySem.Str.ofString "a0"), .str (PySem.Str.ofString "a5"), .str (PySem.Str.ofString "f1"), .str (PySem.Str.ofString "a1 a1"), .str (PySem.Str.ofString "a1  a2"), .str (PySem.Str.ofString " a1"), .str (PySem.Str.ofString "a1 "), .str (PySem.Str.ofString "a1,a2"), .str (PySem.Str.ofString "a1 |")]
abbrev bad2 : List D := [.str (PySem.Str.ofString "a1 | "), .str (PySem.Str.ofString "a1|a1>a1"), .str (PySem.Str.ofString "a1 | a1"), .str (PySem.Str.ofString "a1 | a1>"), .none, .int 5]
abbrev bad3 : List D := [.str (PySem.Str.ofString "a1 | a1>a2"), .str (PySem.Str.ofString "a1 | a1>a1 a1>a1"), .str (PySem.Str.ofString "a1 | a1>a1>a1"), .str (PySem.Str.ofString "a1 | a1 > a1"), .str (PySem.Str.ofString "| a1>a1")]
abbrev bad4 : List D := [.str (PySem.Str.ofString "a1 a2 a3 a4 b1 b2"), .list [.str (PySem.Str.ofString "a1")]]
theorem bad_all {K : PySem.W.Frag} (kf : KF K) : ∀ d ∈ bad1 ++ bad2 ++ bad3 ++ bad4, fn_law_ask K [.int 1, d] = some (raised 8) := by
  intro d hd
  simp only [List.mem_append, bad1, bad2, bad3, bad4, List.mem_cons, List.not_mem_nil, or_false] at hd
  rcases hd with ((hd | hd) | hd) | hd
  · rcases hd with rfl | rfl | rfl | rfl | rfl | rfl | rfl | rfl | rfl | rfl | rfl | rfl <;> exact ask_badS kf _ (by decide +kernel)
  · rcases hd with rfl | rfl | rfl | rfl | rfl | rfl
    · exact ask_badS kf _ (by decide +kernel)
    · exact ask_badS kf _ (by decide +kernel)
    · exact ask_badS kf _ (by decide +kernel)
    · exact ask_badS kf _ (by decide +kernel)
    · exact ask_no kf rfl rfl
    · exact ask_no kf rfl rfl
  · rcases hd with rfl | rfl | rfl | rfl | rfl <;> exact ask_badS kf _ (by decide +kernel)
  · rcases hd with rfl | rfl
    · exact ask_badS kf _ (by decide +kernel)
    · exact ask_no kf rfl rfl
abbrev exA : List (List Nat) := [[97, 49], [98, 50]]
abbrev exP : List (List Nat × List Nat) := [([98, 50], [98, 50]), ([98, 50], [97, 49])]
theorem ask_ex {K : PySem.W.Frag} : fn_law_ask K [.int 1, .str (PySem.Str.ofString "a1 b2 | b2>b2 b2>a1")] = some (dU exA exP) := by
  have e := ev_ask (K := K) 1 (by omega) (.str (PySem.Str.ofString "a1 b2 | b2>b2 b2>a1"))
  rw [show ((1 : Nat) : Int) = 1 from rfl, if_neg (by omega)] at e
  have et : PySem.Str.ofString "a1 b2 | b2>b2 b2>a1" = tx (fmtL exA exP) := by decide +kernel
  rw [e, et, parse_back (A := exA) (B := exP) (by decide +kernel) (by decide) (by decide) (by decide) ⟨by decide, by decide⟩]
  rfl
end Pr

set_option Elab.async false
set_option linter.all false
set_option maxRecDepth 100000
set_option maxHeartbeats 4000000
namespace Pr
open PySem PySem.Spec PyProof.Rows L2 Pf
theorem ext5 {l : List Int} {t x r : List D} {s2 s3 s4 s6 s7 s8 s9 s10 : Sl} {g : Pf.S → Option D} (hg : g [.fl l, .ow none (.lst t), s2, s3, s4, .ow none (.lst x), s6, s7, s8, s9, s10] = some (.list r)) (hl : x.length + r.length ≤ 1000) :
    extO 5 g [.fl l, .ow none (.lst t), s2, s3, s4, .ow none (.lst x), s6, s7, s8, s9, s10] = some (.nx [.fl l, .ow none (.lst t), s2, s3, s4, .ow none (.lst (x ++ r)), s6, s7, s8, s9, s10]) := by
  unfold extO
  rw [show ownL 5 [.fl l, .ow none (.lst t), s2, s3, s4, .ow none (.lst x), s6, s7, s8, s9, s10] = some (none, x) from rfl, Option.bind_some, hg, Option.bind_some]
  dsimp only
  rw [if_pos (by rw [sizeLine_eq]; omega)]
  rfl
theorem exok : (∀ x ∈ exA, okX x) ∧ ∀ p ∈ exP, okX p.1 ∧ okX p.2 := by
  have o1 : okX [97, 49] := ⟨by decide, by decide⟩
  have o2 : okX [98, 50] := ⟨by decide, by decide⟩
  refine ⟨fun x hx => ?_, fun p hp => ?_⟩
  · simp only [exA, List.mem_cons, List.not_mem_nil, or_false] at hx
    rcases hx with rfl | rfl
    · exact o1
    · exact o2
  · simp only [exP, List.mem_cons, List.not_mem_nil, or_false] at hp
    rcases hp with rfl | rfl
    · exact ⟨o2, o2⟩
    · exact ⟨o2, o1⟩
theorem law_true {K : PySem.W.Frag} (kf : KF K) : ∀ l : List Int, l.length ≤ 63 → (g_law K (Sl.fl l :: List.replicate (n_law.length - 1) .un)).bind outP = some (.bool true) := by
  intro l _
  obtain ⟨A, B, a1, b1, SO⟩ := ev_set (K := K) l (a := 0) (b := 0) (m := 5) (by omega) (by omega) (by omega) (by omega)
  have hs := SO.is
  have okA : ∀ x ∈ A, okX x := fun x hx => (tile_no (SO.ta x hx)).2.1
  have tB : ∀ p ∈ B, tileL p.1 = true ∧ tileL p.2 = true := fun p hp => ⟨SO.ta _ (SO.tb p hp).1, SO.ta _ (SO.tb p hp).2⟩
  have okB : ∀ p ∈ B, okX p.1 ∧ okX p.2 := fun p hp => ⟨(tile_no (tB p hp).1).2.1, (tile_no (tB p hp).2).2.1⟩
  have sm : Small A B := ⟨fun x hx => (tile_no (SO.ta x hx)).1, by have := SO.la; omega, fun p hp => ⟨(tile_no (tB p hp).1).1, (tile_no (tB p hp).2).1⟩, by have := SO.lb; omega⟩
  have okT := fmtL_ok sm okA okB
  have hfm := ev_formatted (K := K) sm okB
  have htx := ev_law_text (K := K) sm okB
  have his := is_set_U (K := K) hs okA okB
  have hT2 : (fmtL A B).length ≤ 1000 := by
    have h6 : ∀ x ∈ B.map pairT, x.length ≤ 6 := fun x hx => by
      obtain ⟨q, hq, rfl⟩ := List.mem_map.mp hx
      have hq2 := sm.b q hq
      simp [pairT, hq2]
    have hfl := flat_len h6
    rw [List.length_map] at hfl
    have hjl := joinL_len (P := A) (k := 2) fun x hx => Nat.le_of_eq (sm.a x hx)
    have := sm.n
    have := sm.m
    unfold fmtL
    split
    · simp; omega
    · simp only [List.length_append, List.length_cons]; omega
  have a0 := ask0_yes (K := K) his hfm
  have a1' : fn_law_ask K [.int 1, dS (fmtL A B)] = some (dU A B) := by
    have e := ev_ask (K := K) 1 (by omega) (dS (fmtL A B))
    rw [show ((1 : Nat) : Int) = 1 from rfl, if_neg (by omega)] at e
    rw [e, parse_back hs SO.ne SO.ta tB okT]
    rfl
  have shT := shaped_str okT
  have shU := shaped_U okA okB
  show ((g_law K [.fl l, .un, .un, .un, .un, .un, .un, .un, .un, .un, .un]).bind outP) = _
  unfold g_law
  rw [ev_seqO, show setV 1 (vLst (pCons (fun _ => some (.int 0)) (pCons (fun _ => some (.int 0)) pNil))) [.fl l, .un, .un, .un, .un, .un, .un, .un, .un, .un, .un] = some (.nx [.fl l, .ow none (.lst [.int 0, .int 0]), .un, .un, .un, .un, .un, .un, .un, .un, .un]) from rfl, Option.bind_some, ev_thenNx]
  have f1 := mO_eq (q := none) (l := l) (t := [.int 0, .int 0]) (rest := [.un, .un, .un, .un, .un, .un, .un, .un, .un]) (g := fun _ => some (.int 5)) (x := .int 5) rfl SO.e
  rw [ev_seqO, ev_asgO, f1]
  simp only [Option.bind_some, Option.map_some, ev_putS, List.set_cons_succ, List.set_cons_zero, ev_thenNx]
  rw [ev_seqO, ev_asgO, ev_pur, ev_pA, ev_pCons, ev_slot2, ev_slot0, Option.bind_some, ev_pNil, Option.bind_some, Option.bind_some, htx]
  simp only [Option.bind_some, Option.map_some, ev_putS, List.set_cons_succ, List.set_cons_zero, ev_thenNx]
  rw [ev_seqO, ev_ifO, ev_pur]
  rw [show pOrT (pTest (p2 neD (pA (fn_law_ask K) (pCons (fun _ => some (.int 0)) (pCons (slot 2) pNil))) (slot 3))) (pTest (p2 neD (pA (fn_law_ask K) (pCons (fun _ => some (.int 1)) (pCons (slot 3) pNil))) (slot 2))) [.fl l, .ow none (.lst [.int a1, .int b1]), .im (dU A B), .im (dS (fmtL A B)), .un, .un, .un, .un, .un, .un, .un] = some false from by
    simp only [ev_pOrT, ev_pTest, ev_p2, ev_pA, ev_pCons, ev_pNil, ev_slot2, ev_slot3, ev_slot0, Option.bind_some, a0, a1', ne_refl shT, ne_refl shU, ev_testB]
    rfl]
  simp only [Option.bind_some, Option.map_some, Bool.false_eq_true, if_false, ev_thenNx]
  obtain ⟨ds8, hd8, _⟩ := range_len (n := 8) (by omega) (by omega)
  rw [ev_seqO, ev_forO, ev_pur, ev_pLst, ev_pCons, Option.bind_some, ev_pNil, Option.bind_some, Option.bind_some, hd8]
  simp only [Option.bind_some, Option.map_some]
  obtain ⟨⟨a2, b2, s4, s6, s7, s8, s9⟩, _, eL⟩ := bent_loop kf l (dU A B) (fmtL A B) okT hT2 ds8 (a1, b1, .un, .un, .un, .un, .un) ⟨SO.a0, SO.b0⟩
  have eL := eL 0
  unfold gBody gChars at eL
  rw [eL, Option.bind_some, ev_thenNx]
  rw [ev_seqO, show setV 5 (vLst (pCons (fun _ => some (.str (PySem.Str.ofString ""))) (pCons (fun _ => some (.str (PySem.Str.ofString " "))) (pCons (fun _ => some (.str (PySem.Str.ofString "a"))) (pCons (fun _ => some (.str (PySem.Str.ofString "a0"))) (pCons (fun _ => some (.str (PySem.Str.ofString "a5"))) (pCons (fun _ => some (.str (PySem.Str.ofString "f1"))) (pCons (fun _ => some (.str (PySem.Str.ofString "a1 a1"))) (pCons (fun _ => some (.str (PySem.Str.ofString "a1  a2"))) (pCons (fun _ => some (.str (PySem.Str.ofString " a1"))) (pCons (fun _ => some (.str (PySem.Str.ofString "a1 "))) (pCons (fun _ => some (.str (PySem.Str.ofString "a1,a2"))) (pCons (fun _ => some (.str (PySem.Str.ofString "a1 |"))) pNil))))))))))))) (F3 l (dU A B) (fmtL A B) 0 (a2, b2, s4, s6, s7, s8, s9)) = some (.nx [.fl l, .ow none (.lst [.int a2, .int b2]), .im (dU A B), .im (dS (fmtL A B)), s4, .ow none (.lst bad1), s6, s7, s8, s9, .un]) from rfl, Option.bind_some, ev_thenNx]
  rw [ev_seqO, ext5 (r := bad2) rfl (by simp), Option.bind_some, ev_thenNx, ev_seqO, ext5 (r := bad3) rfl (by simp), Option.bind_some, ev_thenNx, ev_seqO, ext5 (r := bad4) rfl (by simp), Option.bind_some, ev_thenNx]
  show ((seqO _ _ [.fl l, .ow none (.lst [.int a2, .int b2]), .im (dU A B), .im (dS (fmtL A B)), s4, .im (.list (bad1 ++ bad2 ++ bad3 ++ bad4)), s6, s7, s8, s9, .un]).bind outP) = _
  have nbad : (bad1 ++ bad2 ++ bad3 ++ bad4).length = 25 := rfl
  have c1 : pLc (pIterS (slot 5)) (putS 10) (fun _ => some true) (pA (fn_law_ask K) (pCons (fun _ => some (.int 1)) (pCons (slot 10) pNil))) [10] [.fl l, .ow none (.lst [.int a2, .int b2]), .im (dU A B), .im (dS (fmtL A B)), s4, .im (.list (bad1 ++ bad2 ++ bad3 ++ bad4)), s6, s7, s8, s9, .un] = some (.list (List.replicate 25 (raised 8))) := by
    rw [ev_pLc, ev_pIterS, ev_slot5, ev_slot0, Option.bind_some, ev_iterS_l, Option.bind_some, if_pos (show noOw _ [10] = true from rfl), lc_mapG (δ1 := fun d => [.fl l, .ow none (.lst [.int a2, .int b2]), .im (dU A B), .im (dS (fmtL A B)), s4, .im (.list (bad1 ++ bad2 ++ bad3 ++ bad4)), s6, s7, s8, s9, .im d]) (fun _ => raised 8) (fun d hd => rfl) (fun d hd => bad_all kf d hd), Option.bind_some, List.map_const', nbad]
  rw [ev_seqO, ev_ifO, ev_pur, ev_pTest, ev_p2, c1, Option.bind_some]
  rw [show p2 mulD (pA lstD (pCons (pA tupD (pCons (fun _ => some (.str (PySem.Str.ofString "raised"))) (pCons (fun _ => some (.int 8)) pNil))) pNil)) (pA lenD (pCons (slot 5) pNil)) [.fl l, .ow none (.lst [.int a2, .int b2]), .im (dU A B), .im (dS (fmtL A B)), s4, .im (.list (bad1 ++ bad2 ++ bad3 ++ bad4)), s6, s7, s8, s9, .un] = some (.list (List.replicate 25 (raised 8))) from mul_rep 8 25 (by omega), Option.bind_some, ne_refl (shaped_rep 8 25)]
  simp only [Option.bind_some, Option.map_some, ev_testB, Bool.false_eq_true, if_false, ev_thenNx]
  have exU : pA tupD (pCons (pA tupD (pCons (fun _ => some (.str (PySem.Str.ofString "a1"))) (pCons (fun _ => some (.str (PySem.Str.ofString "b2"))) pNil))) (pCons (pA tupD (pCons (pA tupD (pCons (fun _ => some (.str (PySem.Str.ofString "b2"))) (pCons (fun _ => some (.str (PySem.Str.ofString "b2"))) pNil))) (pCons (pA tupD (pCons (fun _ => some (.str (PySem.Str.ofString "b2"))) (pCons (fun _ => some (.str (PySem.Str.ofString "a1"))) pNil))) pNil))) pNil)) [.fl l, .ow none (.lst [.int a2, .int b2]), .im (dU A B), .im (dS (fmtL A B)), s4, .im (.list (bad1 ++ bad2 ++ bad3 ++ bad4)), s6, s7, s8, s9, .un] = some (dU exA exP) := by
    rw [show PySem.Str.ofString "a1" = tx [97, 49] from by decide +kernel, show PySem.Str.ofString "b2" = tx [98, 50] from by decide +kernel]
    rfl
  rw [ev_seqO, ev_ifO, ev_pur, ev_pTest, ev_p2, ev_pA, ev_pCons, Option.bind_some, ev_pCons, Option.bind_some, ev_pNil, Option.bind_some, Option.bind_some, Option.bind_some, ask_ex, Option.bind_some, exU, Option.bind_some, ne_refl (shaped_U (A := exA) (B := exP) exok.1 exok.2)]
  simp only [Option.bind_some, Option.map_some, ev_testB, Bool.false_eq_true, if_false, ev_thenNx]
  have c2 : pLc (pIterS (pA tupD (pCons (fun _ => some .none) (pCons (pA tupD pNil) (pCons (slot 3) (pCons (pA listD (pCons (slot 2) pNil)) (pCons (pSl slD (slot 2) (fun _ => some none) (pPart (fun _ => some (.int 1)))) pNil))))))) (putS 10) (fun _ => some true) (pA (fn_law_ask K) (pCons (fun _ => some (.int 0)) (pCons (slot 10) pNil))) [10] [.fl l, .ow none (.lst [.int a2, .int b2]), .im (dU A B), .im (dS (fmtL A B)), s4, .im (.list (bad1 ++ bad2 ++ bad3 ++ bad4)), s6, s7, s8, s9, .un] = some (.list (List.replicate 5 (raised 0))) := by
    rw [ev_pLc, ev_pIterS, show pA tupD (pCons (fun _ => some .none) (pCons (pA tupD pNil) (pCons (slot 3) (pCons (pA listD (pCons (slot 2) pNil)) (pCons (pSl slD (slot 2) (fun _ => some none) (pPart (fun _ => some (.int 1)))) pNil))))) [.fl l, .ow none (.lst [.int a2, .int b2]), .im (dU A B), .im (dS (fmtL A B)), s4, .im (.list (bad1 ++ bad2 ++ bad3 ++ bad4)), s6, s7, s8, s9, .un] = some (.tuple [.none, .tuple [], dS (fmtL A B), .list [.tuple (A.map dS), .tuple (B.map dQ)], .tuple [.tuple (A.map dS)]]) from rfl, Option.bind_some, ev_iterS_t, Option.bind_some, if_pos (show noOw _ [10] = true from rfl), lc_mapG (δ1 := fun d => [.fl l, .ow none (.lst [.int a2, .int b2]), .im (dU A B), .im (dS (fmtL A B)), s4, .im (.list (bad1 ++ bad2 ++ bad3 ++ bad4)), s6, s7, s8, s9, .im d]) (fun _ => raised 0) (fun d hd => rfl) (fun d hd => by
      refine ask0_no kf ?_
      simp only [List.mem_cons, List.not_mem_nil, or_false] at hd
      rcases hd with rfl | rfl | rfl | rfl | rfl
      · exact is_set_no1 rfl rfl
      · exact is_set_no2 (by simp)
      · exact is_set_no1 rfl rfl
      · exact is_set_no1 rfl rfl
      · exact is_set_no2 (by simp))]
    rfl
  rw [ev_retO, ev_pur, ev_p2, c2, Option.bind_some]
  rw [show p2 mulD (pA lstD (pCons (pA tupD (pCons (fun _ => some (.str (PySem.Str.ofString "raised"))) (pCons (fun _ => some (.int 0)) pNil))) pNil)) (fun _ => some (.int 5)) [.fl l, .ow none (.lst [.int a2, .int b2]), .im (dU A B), .im (dS (fmtL A B)), s4, .im (.list (bad1 ++ bad2 ++ bad3 ++ bad4)), s6, s7, s8, s9, .un] = some (.list (List.replicate 5 (raised 0))) from mul_rep 0 5 (by omega), Option.bind_some, eq_refl' (shaped_rep 0 5)]
  rfl
end Pr

set_option Elab.async false
set_option linter.all false
set_option maxRecDepth 100000
set_option maxHeartbeats 0
namespace Pr
open PySem PySem.Spec PyProof.Rows L2 Pf
theorem excF_of {K : PySem.W.Frag} {h : Heap} {mg : Str → Option Value} {x : Str} (X : K.In h) (G : h.Ns mainGlobals mg) (c1 : (He.Fa.glo x).ok K = true) (c2 : (He.Fa.exc x).ok K = true) : ExcF K mg x := by
  obtain ⟨a, b, c, d⟩ := He.exc_ok c2
  exact ⟨He.glo_ok X G c1, a, b, c, d⟩
theorem isDef_of {K : PySem.W.Frag} {h : Heap} {mg : Str → Option Value} {d : He.DefD} {x : Str} {st : Stmt} (X : K.In h) (G : h.Ns mainGlobals mg) (c1 : (He.Fa.glo x).ok K = true)
    (F : ∃ fd, FunD K d.name d.qual d.params d.body d.scope (d.dvs K) (d.kws K) (He.fAd K d.at_) fd) (e1 : d.name = x) (e2 : d.qual = x) (e3 : d.params = defArgs st) (e4 : d.body = defBody st) (e5 : d.scope = defScope st) (e6 : d.at_ = (x, none)) (e7 : d.dfl = []) : IsDef K mg x st := by
  obtain ⟨fd, F⟩ := F
  rw [e1, e2, e3, e4, e5, e6] at F
  have e8 : d.dvs K = [] := by unfold He.DefD.dvs; rw [e7]; rfl
  rw [e8] at F
  exact ⟨He.ga K x, fd, _, F, He.glo_ok X G c1⟩

theorem top_of {K : PySem.W.Frag} {h : Heap} {mg : Str → Option Value} (X : K.In h) (G : h.Ns mainGlobals mg) (c : He.SaysD faL fnL K) (m : exB K = true) : Top K mg where
  m_COLOURS := He.str_ok X G (c.fact 34 (f := .str "COLOURS" (PySem.Str.ofString "abcde")) rfl)
  m_LENGTHS := He.str_ok X G (c.fact 35 (f := .str "LENGTHS" (PySem.Str.ofString "1234")) rfl)
  x_InvalidFormat := excF_of X G (c.fact 45 (f := .glo "InvalidFormat") rfl) (c.fact 54 (f := .exc "InvalidFormat") rfl)
  x_InvalidSet := excF_of X G (c.fact 37 (f := .glo "InvalidSet") rfl) (c.fact 46 (f := .exc "InvalidSet") rfl)
  f_ValueError := He.free_ok X G (c.fact 14 (f := .free "ValueError") rfl)
  f_all := He.free_ok X G (c.fact 16 (f := .free "all") rfl)
  f_isinstance := He.free_ok X G (c.fact 22 (f := .free "isinstance") rfl)
  f_len := He.free_ok X G (c.fact 23 (f := .free "len") rfl)
  f_list := He.free_ok X G (c.fact 24 (f := .free "list") rfl)
  f_range := He.free_ok X G (c.fact 27 (f := .free "range") rfl)
  f_set := He.free_ok X G (c.fact 28 (f := .free "set") rfl)
  f_str := He.free_ok X G (c.fact 30 (f := .free "str") rfl)
  f_tuple := He.free_ok X G (c.fact 32 (f := .free "tuple") rfl)
  g_Apart := He.glo_ok X G (c.fact 43 (f := .glo "Apart") rfl)
  g_InvalidFormat := He.glo_ok X G (c.fact 45 (f := .glo "InvalidFormat") rfl)
  g_InvalidLength := He.glo_ok X G (c.fact 38 (f := .glo "InvalidLength") rfl)
  g_InvalidLook := He.glo_ok X G (c.fact 39 (f := .glo "InvalidLook") rfl)
  g_InvalidSet := He.glo_ok X G (c.fact 37 (f := .glo "InvalidSet") rfl)
  g_InvalidTiling := He.glo_ok X G (c.fact 40 (f := .glo "InvalidTiling") rfl)
  g_NoSuchTiling := He.glo_ok X G (c.fact 41 (f := .glo "NoSuchTiling") rfl)
  g_NothingLaid := He.glo_ok X G (c.fact 44 (f := .glo "NothingLaid") rfl)
  g_TileError := He.glo_ok X G (c.fact 36 (f := .glo "TileError") rfl)
  g_UnknownTile := He.glo_ok X G (c.fact 42 (f := .glo "UnknownTile") rfl)
  ec := fun C h => (ex_of m C h).1
  xm := fun C h => by
      rcases h with rfl | rfl
      · exact He.exm_ok (c.fact 55 (f := .exm "InvalidSet" "TileError" true) rfl)
      · exact He.exm_ok (c.fact 56 (f := .exm "InvalidFormat" "TileError" true) rfl)
theorem isd_of {K : PySem.W.Frag} {h : Heap} {mg : Str → Option Value} (X : K.In h) (G : h.Ns mainGlobals mg) (c : He.SaysD faL fnL K) : Isd K mg where
  i_is_tile := isDef_of (d := dd_is_tile) X G (c.fact 0 (f := .glo "is_tile") rfl) (c.def_ 0 rfl) rfl rfl rfl rfl rfl rfl rfl
  i_is_pair := isDef_of (d := dd_is_pair) X G (c.fact 1 (f := .glo "is_pair") rfl) (c.def_ 1 rfl) rfl rfl rfl rfl rfl rfl rfl
  i_is_set := isDef_of (d := dd_is_set) X G (c.fact 2 (f := .glo "is_set") rfl) (c.def_ 2 rfl) rfl rfl rfl rfl rfl rfl rfl
  i_need_set := isDef_of (d := dd_need_set) X G (c.fact 3 (f := .glo "need_set") rfl) (c.def_ 3 rfl) rfl rfl rfl rfl rfl rfl rfl
  i_formatted := isDef_of (d := dd_formatted) X G (c.fact 4 (f := .glo "formatted") rfl) (c.def_ 4 rfl) rfl rfl rfl rfl rfl rfl rfl
  i_format_set := isDef_of (d := dd_format_set) X G (c.fact 5 (f := .glo "format_set") rfl) (c.def_ 5 rfl) rfl rfl rfl rfl rfl rfl rfl
  i_parse_set := isDef_of (d := dd_parse_set) X G (c.fact 6 (f := .glo "parse_set") rfl) (c.def_ 6 rfl) rfl rfl rfl rfl rfl rfl rfl
  i_law_draw := isDef_of (d := dd_law_draw) X G (c.fact 7 (f := .glo "_law_draw") rfl) (c.def_ 7 rfl) rfl rfl rfl rfl rfl rfl rfl
  i_law_pick := isDef_of (d := dd_law_pick) X G (c.fact 8 (f := .glo "_law_pick") rfl) (c.def_ 8 rfl) rfl rfl rfl rfl rfl rfl rfl
  i_law_set := isDef_of (d := dd_law_set) X G (c.fact 9 (f := .glo "_law_set") rfl) (c.def_ 9 rfl) rfl rfl rfl rfl rfl rfl rfl
  i_law_which := isDef_of (d := dd_law_which) X G (c.fact 10 (f := .glo "_law_which") rfl) (c.def_ 10 rfl) rfl rfl rfl rfl rfl rfl rfl
  i_law_text := isDef_of (d := dd_law_text) X G (c.fact 11 (f := .glo "_law_text") rfl) (c.def_ 11 rfl) rfl rfl rfl rfl rfl rfl rfl
  i_law_ask := isDef_of (d := dd_law_ask) X G (c.fact 12 (f := .glo "_law_ask") rfl) (c.def_ 12 rfl) rfl rfl rfl rfl rfl rfl rfl
abbrev okL : List Int → Prop := fun l => l.length ≤ 63
theorem facts {P : Program} {w : World} {K : PySem.W.Frag} {h : Heap} {mg : Str → Option Value} {f : Addr} (X : K.In h) (G : h.Ns mainGlobals mg) (hfa : mg ("law" : Str) = some (.ref f)) (c : He.SaysD faL fnL K) (m : exB K = true) :
    ∃ fd : FuncData, (∀ (s : Shared) (v : Value), BindsTo s fd ⟨[v], []⟩ [("script", v)]) ∧ ∀ base : Heap, K.In base → base.Ns mainGlobals mg → FnOk P w K mg base CX0 7 f fd ["script"] (spLw K okL) := by
  obtain ⟨fd, F⟩ := c.def_ 13 (d := dd_law) rfl
  have e := hfa.symm.trans (He.glo_ok X G (c.fact 13 (f := .glo "law") rfl))
  cases e
  have b := FunD.bindsA (ps := ["script"]) F fun _ _ _ _ _ _ us hl => match us, hl with | [_], _ => rfl
  exact ⟨fd, fun s v => b s [v] rfl, fun base _ _ => law_ok (top_of X G c m) (isd_of X G c) F (law_true (kf_of m))⟩
end Pr
open PySem PySem.W PySem.Calls PyProof.Rows
theorem PySem.Challenge.cw_striptilings_k13_whole_formats_holds : PySem.Challenge.rw_striptilings_k13_whole_formats.Holds := by
  w_on; o_law
  refine HandSHeadRun.head_any (r := OpenLaw.row PySem.Challenge.rw_striptilings_k13_whole_formats) (q := view (OpenLaw.row PySem.Challenge.rw_striptilings_k13_whole_formats).prog [29]) (H := Pr.hk) (ob := Pr.ob) (M := 8000) (loose := Pr.loose) (d := HandSHeadRun.topDef (OpenLaw.row PySem.Challenge.rw_striptilings_k13_whole_formats).prog 29) (kwd := []) Pr.ob_eq
    (by kernel_rfl) (fun s => by kernel_rfl) Pr.run (by kernel_rfl) (by kernel_rfl) (by kernel_rfl) (by rfl) (by first | assumption | decide +kernel) (by decide +kernel) ⟨rfl, rfl, rfl, rfl, rfl, by decide +kernel⟩ ?hw ?hc
  case hw => w_witness2
  case hc =>
    refine L2.walk_ofE (l := PySem.Challenge.rw_striptilings_k13_whole_formats) (n := 63) (k := 7) (x := "script") (CX := L2.CX0) rfl (by decide) (by kernel_rfl) ⟨rfl, by decide, by decide⟩ ?F (fun _ _ _ _ z => z)
    intro w mg fa h Y G hmg0
    obtain ⟨K, KX, c⟩ := Y
    have hmg : mg ("law" : PySem.Str) = some (.ref fa) := by
      have e : (HandSHeadRun.topDef (OpenLaw.row PySem.Challenge.rw_striptilings_k13_whole_formats).prog 29).name = ("law" : PySem.Str) := by kernel_rfl
      rw [← e]
      exact hmg0
    obtain ⟨fd, hb, hF⟩ := Pr.facts (P := (PySem.Challenge.rw_striptilings_k13_whole_formats).prog) (w := w) KX G hmg c.t.d c.more
    exact ⟨K, fd, Pf.spLw K Pr.okL, KX, hb, fun H a ns hl _ hS => ⟨a, ns, rfl, hl, hS, fun _ => rfl⟩, hF⟩


