import PyProof.Rows.All
import HandS.ForMost
import HandS.Exc
import HandS.ExcOwn
import HandS.TryOnly
import HandS.TryMany
import HandS.CallSlots
import HandS.ExcCtx
import HandS.HotCalls
import HandS.IsInst
import HandS.Style
import HandS.Lambda
import HandS.TupMul
import HandS.Zip
import PyProof.Draws
import HandS.DeepEq
import PyProof.NeKinds
import HandS.WideBits
import HandS.Deep
import HandS.TupAny
import HandS.RevRange
import HandS.WordsExc
import HandS.More
import HandS.Defaults
import HandS.ExcIs
import HandS.HeadHook1
import HandS.RaiseMore
import HandS.Dict
import HandS.Text
import HandS.Replace
import PyProof.StrCalls6
import PyProof.FactsAll.str_6
import HandS.SetFor
import KE.DataMinMax
import KE.GoesMore
import KE.GoesZip
import PyProof.ReprRoads
import PyProof.ReprLen
import KE.KDflt
import PyProof.Rows.IntBool
import HandS.NoneIn
import HandS.EndBits
import HandS.Head0
import HandS.Head1
import HandS.Head2
import HandS.HeadEnd
import HandS.HeadHook2
import HandS.EndTab
import HandS.HeadHook4
import PySem.Challenge.RW_cellfolio_k09_cut_and_thinned
set_option Elab.async false
set_option linter.all false
set_option maxRecDepth 100000
set_option maxHeartbeats 4000000
namespace Sy
open PySem PySem.Spec PyProof.Rows L2
abbrev SSt := L2.St

/-! own values: lists, dicts, instances are places in an own heap -/
inductive W where
  | non | bl (b : Bool) | int (i : Int) | str (x : Str) | tup (xs : List W) | loc (n : Nat) | ty (n : String) | cls (c : Nat) | frl (xs : List W) | exn (c : Nat) (a : Addr)

abbrev GK := List L2.Key
inductive GO where
  | lst (xs : List W) | dK (kvs : List (L2.Key × W)) | dT (kvs : List (GK × W)) | ins (c : Nat) (fs : List (Str × W)) | tb (k : Nat) (q : Str)
abbrev GH := List GO
abbrev Sl := List (Option W)

inductive R (α : Type) where
  | ok (a : α) (G : GH) | ex (c : Nat) (fs : List (Str × W)) (G : GH) | bad

def R.bind {α β : Type} : R α → (α → GH → R β) → R β
  | .ok a G, k => k a G
  | .ex c fs G, _ => .ex c fs G
  | .bad, _ => .bad
@[simp] theorem R.bind_ok {α β : Type} (a : α) (G : GH) (k : α → GH → R β) : (R.ok a G).bind k = k a G := (rfl)
@[simp] theorem R.bind_ex {α β : Type} (c : Nat) (fs) (G : GH) (k : α → GH → R β) : (R.ex c fs G : R α).bind k = .ex c fs G := (rfl)
@[simp] theorem R.bind_bad {α β : Type} (k : α → GH → R β) : (R.bad : R α).bind k = .bad := (rfl)

/-- a value, or a list that nobody holds yet -/
inductive T where
  | val (w : W) | tmp (ws : List W)

/-- what never changes where it stands -/
def isStat : HO → Bool
  | .tup _ => true
  | .frz _ _ => true
  | .ext _ => true
  | _ => false
def Stay (H H' : Hp) : Prop := ∀ a u, isStat u = true → H a = some u → H' a = some u
theorem Stay.refl {H : Hp} : Stay H H := fun _ _ _ h => h
theorem Stay.trans {H H1 H2 : Hp} (a : Stay H H1) (b : Stay H1 H2) : Stay H H2 := fun x u s h => b x u s (a x u s h)
/-- a list that is locked for good, or written -/
def FzL (K : PySem.W.Frag) (H : Hp) (a : Addr) (xs : List V) : Prop := (∃ o, H a = some (.frz o (.lst xs))) ∨
  ∃ (o : Obj) (its : Array Value) (n : Nat), K.lookup a = some o ∧ o.cls = .type "list" ∧ o.dict = none ∧ o.data = .seq its n ∧ its.size ≤ sizeLine ∧ Vals xs its.toList
theorem FzL.sq {K : PySem.W.Frag} {H : Hp} {a : Addr} {xs : List V} (h : FzL K H a xs) : SqL K H a xs := by
  rcases h with ⟨o, h⟩ | h
  · exact .inl (.inr ⟨o, h⟩)
  · exact .inr h
theorem Stay.fz {K : PySem.W.Frag} {H H' : Hp} (t : Stay H H') {a : Addr} {xs : List V} (h : FzL K H a xs) : FzL K H' a xs := by
  rcases h with ⟨o, h⟩ | h
  · exact .inl ⟨o, t _ _ rfl h⟩
  · exact .inr h
theorem Stay.sqT {K : PySem.W.Frag} {H H' : Hp} (t : Stay H H') {a : Addr} {xs : List V} (h : SqT K H a xs) : SqT K H' a xs := by
  rcases h with h | h
  · rcases h with h | ⟨o, h⟩
    · exact .inl (.inl (t _ _ rfl h))
    · exact .inl (.inr ⟨o, t _ _ rfl h⟩)
  · exact .inr h
theorem Stay.laid {H : Hp} {p : Addr} {o : HO} (hp : H p = none) : Stay H (upd H p o) := fun a u _ h => by
  rw [upd_ne (ne_of_none h hp)]; exact h
theorem Stay.put {H : Hp} {p : Addr} {o : HO} (hp : ∀ u, H p = some u → isStat u = false) : Stay H (upd H p o) := fun a u s h => by
  have ne : a ≠ p := fun e => by subst e; rw [hp u h] at s; cases s
  rw [upd_ne ne]; exact h
theorem ns_lst {H : Hp} {p : Addr} {xs : List V} (h : H p = some (.lst xs)) : ∀ u, H p = some u → isStat u = false := fun u e => by
  rw [h] at e; cases e; rfl
/-! the relation to the layer's values -/
section
variable (K : PySem.W.Frag) (ca : Nat → Addr)
inductive RelW (ρ : List Addr) (H : Hp) : V → W → Prop
  | non : RelW ρ H .non .non
  | bl (b : Bool) : RelW ρ H (.bl b) (.bl b)
  | int (i : Int) : RelW ρ H (.int i) (.int i)
  | str (x : Str) : RelW ρ H (.str x) (.str x)
  | ty (n : String) : RelW ρ H (.ty n) (.ty n)
  | cls (c : Nat) : RelW ρ H (.ref (ca c)) (.cls c)
  | exn (c : Nat) (a : Addr) : RelW ρ H (.ref a) (.exn c a)
  | loc {n : Nat} {a : Addr} : ρ[n]? = some a → RelW ρ H (.ref a) (.loc n)
  | tup {a : Addr} {vs : List V} {ws : List W} : SqT K H a vs → vs.length = ws.length →
      (∀ (i : Nat) v w, vs[i]? = some v → ws[i]? = some w → RelW ρ H v w) → RelW ρ H (.ref a) (.tup ws)
  | frl {a : Addr} {vs : List V} {ws : List W} : FzL K H a vs → vs.length = ws.length →
      (∀ (i : Nat) v w, vs[i]? = some v → ws[i]? = some w → RelW ρ H v w) → RelW ρ H (.ref a) (.frl ws)

abbrev RelWs (ρ : List Addr) (H : Hp) (vs : List V) (ws : List W) : Prop := Paired (RelW K ca ρ H) vs ws

def ObjR (ρ : List Addr) (H : Hp) (a : Addr) : GO → Prop
  | .lst ws => ∃ vs, H a = some (.lst vs) ∧ RelWs K ca ρ H vs ws
  | .dK kvs => ∃ kvs', H a = some (.dK kvs') ∧ Paired (fun (p : L2.Key × V) (q : L2.Key × W) => p.1 = q.1 ∧ RelW K ca ρ H p.2 q.2) kvs' kvs
  | .dT kvs => ∃ kvs', H a = some (.dT kvs') ∧ Paired (fun (p : GK × V) (q : GK × W) => p.1 = q.1 ∧ RelW K ca ρ H p.2 q.2) kvs' kvs
  | .ins c fs => ∃ dx fs', H a = some (.ins (ca c) dx fs') ∧ Paired (fun (p : Str × V) (q : Str × W) => p.1 = q.1 ∧ RelW K ca ρ H p.2 q.2) fs' fs
  | .tb k q => a = ca (1000 + k) ∧ LamX.TabS H a q

structure Rep (ρ : List Addr) (G : GH) (H : Hp) : Prop where
  len : ρ.length = G.length
  nd : ρ.Nodup
  obj : ∀ (n : Nat) a o, ρ[n]? = some a → G[n]? = some o → ObjR K ca ρ H a o

/-- H0: the heap ahead of what made it -/
def RelT (H0 : Hp) (ρ : List Addr) (H : Hp) (v : V) : T → Prop
  | .val w => RelW K ca ρ H v w
  | .tmp ws => ∃ p vs, v = .ref p ∧ p ∉ ρ ∧ H0 p = none ∧ H p = some (.lst vs) ∧ RelWs K ca ρ H vs ws

def RelS (ρ : List Addr) (H : Hp) (σ : SSt) (τ : Sl) : Prop :=
  σ.length = τ.length ∧ ∀ (i : Nat) w, τ[i]? = some (some w) → ∃ v, σ[i]? = some (some v) ∧ RelW K ca ρ H v w

def ExF (ρ : List Addr) (H : Hp) : Option Addr → List (Str × W) → Prop
  | none, fs => fs = []
  | some d, fs => fs ≠ [] ∧ ∃ fs', H d = some (.xd fs') ∧ Paired (fun (p : Str × V) (q : Str × W) => p.1 = q.1 ∧ RelW K ca ρ H p.2 q.2) fs' fs
end

theorem mem_at {ρ : List Addr} {a : Addr} (h : a ∈ ρ) : ∃ n : Nat, ρ[n]? = some a := List.getElem?_of_mem h
structure Ext (ρ : List Addr) (H : Hp) (ρ' : List Addr) (H' : Hp) : Prop where
  pre : ∀ (n : Nat) a, ρ[n]? = some a → ρ'[n]? = some a
  new : ∀ a ∈ ρ', a ∈ ρ ∨ H a = none
  keep : ∀ b o, b ∉ ρ → H b = some o → H' b = some o

theorem Ext.refl {ρ : List Addr} {H : Hp} : Ext ρ H ρ H := ⟨fun _ _ h => h, fun _ h => .inl h, fun _ _ _ h => h⟩
theorem Ext.trans {ρ ρ1 ρ2 : List Addr} {H H1 H2 : Hp} (a : Ext ρ H ρ1 H1) (b : Ext ρ1 H1 ρ2 H2) : Ext ρ H ρ2 H2 where
  pre n x h := b.pre n x (a.pre n x h)
  new x h := by
    rcases b.new x h with z | z
    · exact a.new x z
    · by_cases hx : x ∈ ρ
      · exact .inl hx
      · cases e : H x with
        | none => exact .inr rfl
        | some o =>
          have q := a.keep x o hx e
          rw [z] at q; cases q
  keep x o hx e := by
    refine b.keep x o (fun hm => ?_) (a.keep x o hx e)
    rcases a.new x hm with z | z
    · exact hx z
    · rw [e] at z; cases z

section
variable {K : PySem.W.Frag} {ca : Nat → Addr} {ρ ρ' : List Addr} {G G' : GH} {H H' : Hp}

theorem Rep.at (r : Rep K ca ρ G H) {n : Nat} {a : Addr} (h : ρ[n]? = some a) : ∃ o, G[n]? = some o ∧ ObjR K ca ρ H a o := by
  have h1 : n < G.length := by
    rw [← r.len]; exact (List.getElem?_eq_some_iff.mp h).1
  exact ⟨_, List.getElem?_eq_getElem h1, r.obj n a _ h (List.getElem?_eq_getElem h1)⟩
theorem Rep.addr (r : Rep K ca ρ G H) {n : Nat} {o : GO} (h : G[n]? = some o) : ∃ a, ρ[n]? = some a ∧ ObjR K ca ρ H a o := by
  have h1 : n < ρ.length := by
    rw [r.len]; exact (List.getElem?_eq_some_iff.mp h).1
  exact ⟨_, List.getElem?_eq_getElem h1, r.obj n _ o (List.getElem?_eq_getElem h1) h⟩
/-- nothing that never changes has a place -/
theorem Rep.noStat (r : Rep K ca ρ G H) {a : Addr} {u : HO} (h : H a = some u) (s : isStat u = true) : a ∉ ρ := fun hm => by
  obtain ⟨n, hn⟩ := mem_at hm
  obtain ⟨o, _, ho⟩ := r.at hn
  cases o with
  | lst ws => obtain ⟨_, e, _⟩ := ho; rw [h] at e; cases e; cases s
  | dK ws => obtain ⟨_, e, _⟩ := ho; rw [h] at e; cases e; cases s
  | dT ws => obtain ⟨_, e, _⟩ := ho; rw [h] at e; cases e; cases s
  | ins c fs => obtain ⟨_, _, e, _⟩ := ho; rw [h] at e; cases e; cases s
  | tb k q => obtain ⟨_, _, e, _⟩ := ho; rw [h] at e; cases e; cases s
theorem Rep.stay (r : Rep K ca ρ G H) (x : Ext ρ H ρ' H') : Stay H H' := fun a u s h => x.keep _ _ (r.noStat h s) h
theorem RelW.mono {v : V} {w : W} (h : RelW K ca ρ H v w) (hp : ∀ (n : Nat) a, ρ[n]? = some a → ρ'[n]? = some a) (ht : Stay H H') : RelW K ca ρ' H' v w := by
  induction h with
  | non => exact .non
  | bl b => exact .bl b
  | int i => exact .int i
  | str x => exact .str x
  | ty n => exact .ty n
  | cls c => exact .cls c
  | exn c a => exact .exn c a
  | loc e => exact .loc (hp _ _ e)
  | tup hs hl _ ih => exact .tup (ht.sqT hs) hl ih
  | frl hs hl _ ih => exact .frl (ht.fz hs) hl ih
theorem paired_imp {α β : Type} {P Q : α → β → Prop} : ∀ {xs : List α} {ys : List β}, Paired P xs ys → (∀ x y, P x y → Q x y) → Paired Q xs ys
  | _, _, .nil, _ => .nil
  | _, _, .cons r t, f => .cons (f _ _ r) (paired_imp t f)
theorem RelW.ext {v : V} {w : W} (h : RelW K ca ρ H v w) (r : Rep K ca ρ G H) (x : Ext ρ H ρ' H') : RelW K ca ρ' H' v w := h.mono x.pre (r.stay x)
theorem relWs_ext {vs : List V} {ws : List W} (h : RelWs K ca ρ H vs ws) (r : Rep K ca ρ G H) (x : Ext ρ H ρ' H') : RelWs K ca ρ' H' vs ws := paired_imp h fun _ _ q => q.ext r x
theorem RelT.ext {H0 : Hp} {v : V} {t : T} (h : RelT K ca H0 ρ H v t) (r : Rep K ca ρ G H) (x : Ext ρ H ρ' H') : RelT K ca H0 ρ' H' v t := by
  cases t with
  | val w => exact RelW.ext h r x
  | tmp ws =>
    obtain ⟨p, vs, e, hn, h0, hp, hv⟩ := h
    refine ⟨p, vs, e, fun hm => ?_, h0, x.keep _ _ hn hp, relWs_ext hv r x⟩
    rcases x.new p hm with z | z
    · exact hn z
    · rw [hp] at z; cases z
/-- seen from an earlier heap -/
theorem RelT.back {H0 : Hp} {ρ0 : List Addr} {v : V} {t : T} (h : RelT K ca H ρ' H' v t) (a : Ext ρ0 H0 ρ H) (b : Ext ρ H ρ' H') : RelT K ca H0 ρ' H' v t := by
  cases t with
  | val w => exact h
  | tmp ws =>
    obtain ⟨p, vs, e, hn, h0, hp, hv⟩ := h
    refine ⟨p, vs, e, hn, ?_, hp, hv⟩
    cases q : H0 p with
    | none => rfl
    | some o =>
      by_cases hm : p ∈ ρ0
      · obtain ⟨n, hn'⟩ := mem_at hm
        exact absurd (List.mem_of_getElem? (b.pre _ _ (a.pre _ _ hn'))) hn
      · have z := a.keep p o hm q
        rw [h0] at z; cases z
theorem RelS.ext {σ : SSt} {τ : Sl} (h : RelS K ca ρ H σ τ) (r : Rep K ca ρ G H) (x : Ext ρ H ρ' H') : RelS K ca ρ' H' σ τ :=
  ⟨h.1, fun i w e => let ⟨v, e1, q⟩ := h.2 i w e; ⟨v, e1, q.ext r x⟩⟩
theorem RelS.set {σ : SSt} {τ : Sl} (h : RelS K ca ρ H σ τ) (i : Nat) {v : V} {w : W} (q : RelW K ca ρ H v w) : RelS K ca ρ H (σ.set i (some v)) (τ.set i (some w)) := by
  refine ⟨by rw [List.length_set, List.length_set]; exact h.1, fun j u e => ?_⟩
  by_cases hj : i = j
  · subst hj
    by_cases hl : i < τ.length
    · rw [List.getElem?_set_self hl] at e
      cases e
      exact ⟨v, List.getElem?_set_self (by rw [h.1]; exact hl), q⟩
    · rw [List.getElem?_eq_none (by rw [List.length_set]; omega)] at e
      cases e
  · rw [List.getElem?_set_ne hj] at e ⊢
    exact h.2 j u e
theorem RelS.unset {σ : SSt} {τ : Sl} (h : RelS K ca ρ H σ τ) (i : Nat) : RelS K ca ρ H (σ.set i none) (τ.set i none) := by
  refine ⟨by rw [List.length_set, List.length_set]; exact h.1, fun j u e => ?_⟩
  by_cases hj : i = j
  · subst hj
    by_cases hl : i < τ.length
    · rw [List.getElem?_set_self hl] at e; cases e
    · rw [List.getElem?_eq_none (by rw [List.length_set]; omega)] at e
      cases e
  · rw [List.getElem?_set_ne hj] at e ⊢
    exact h.2 j u e
theorem relWs_get : ∀ {vs : List V} {ws : List W} {i : Nat} {w : W}, RelWs K ca ρ H vs ws → ws[i]? = some w → ∃ v, vs[i]? = some v ∧ RelW K ca ρ H v w
  | _, _, _, _, .nil, e => by simp at e
  | _, _, 0, _, .cons q _, e => by simp at e; subst e; exact ⟨_, rfl, q⟩
  | _, _, i + 1, w, .cons _ t, e => by
    obtain ⟨v, h1, h2⟩ := relWs_get (i := i) (w := w) t (by simpa using e)
    exact ⟨v, by simpa using h1, h2⟩
theorem relWs_of : ∀ {vs : List V} {ws : List W}, vs.length = ws.length → (∀ (i : Nat) v w, vs[i]? = some v → ws[i]? = some w → RelW K ca ρ H v w) → RelWs K ca ρ H vs ws
  | [], [], _, _ => .nil
  | [], _ :: _, h, _ => by simp at h
  | _ :: _, [], h, _ => by simp at h
  | v :: vs, w :: ws, h, f => .cons (f 0 v w rfl rfl) (relWs_of (by simpa using h) fun i x y e1 e2 => f (i + 1) x y (by simpa using e1) (by simpa using e2))
theorem paired_get {α β : Type} {P : α → β → Prop} : ∀ {xs : List α} {ys : List β}, Paired P xs ys → ∀ (i : Nat) x y, xs[i]? = some x → ys[i]? = some y → P x y
  | _, _, .nil, _, _, _, e, _ => by simp at e
  | _, _, .cons q _, 0, _, _, e, f => by simp at e f; subst e; subst f; exact q
  | _, _, .cons _ t, i + 1, x, y, e, f => paired_get t i x y (by simpa using e) (by simpa using f)
theorem RelW.tup' {a : Addr} {vs : List V} {ws : List W} (hs : SqT K H a vs) (h : RelWs K ca ρ H vs ws) : RelW K ca ρ H (.ref a) (.tup ws) :=
  .tup hs h.length fun i v w e1 e2 => paired_get h i v w e1 e2
theorem relW_frl {v : V} {ws : List W} (h : RelW K ca ρ H v (.frl ws)) : ∃ a vs, v = .ref a ∧ FzL K H a vs ∧ RelWs K ca ρ H vs ws := by
  cases h with
  | frl hs hl f => exact ⟨_, _, rfl, hs, relWs_of hl f⟩
theorem relW_tup {v : V} {ws : List W} (h : RelW K ca ρ H v (.tup ws)) : ∃ a vs, v = .ref a ∧ SqT K H a vs ∧ RelWs K ca ρ H vs ws := by
  cases h with
  | tup hs hl f => exact ⟨_, _, rfl, hs, relWs_of hl f⟩

theorem objR_mono {a : Addr} {o : GO} (h : ObjR K ca ρ H a o) (hp : ∀ (n : Nat) a, ρ[n]? = some a → ρ'[n]? = some a) (ht : Stay H H') (ha : H' a = H a) : ObjR K ca ρ' H' a o := by
  cases o with
  | lst ws => obtain ⟨vs, e, q⟩ := h; exact ⟨vs, ha.trans e, paired_imp q fun _ _ z => z.mono hp ht⟩
  | dK ws => obtain ⟨vs, e, q⟩ := h; exact ⟨vs, ha.trans e, paired_imp q fun _ _ z => ⟨z.1, z.2.mono hp ht⟩⟩
  | dT ws => obtain ⟨vs, e, q⟩ := h; exact ⟨vs, ha.trans e, paired_imp q fun _ _ z => ⟨z.1, z.2.mono hp ht⟩⟩
  | ins c fs => obtain ⟨dx, vs, e, q⟩ := h; exact ⟨dx, vs, ha.trans e, paired_imp q fun _ _ z => ⟨z.1, z.2.mono hp ht⟩⟩
  | tb k q =>
    obtain ⟨e0, ps, e, t, f⟩ := h
    refine ⟨e0, ps, ha.trans e, t, fun pos cv hc => ?_⟩
    obtain ⟨c, e1, e2⟩ := f pos cv hc
    exact ⟨c, e1, ht _ _ rfl e2⟩

/-- an object that is not in G was laid -/
theorem Ext.laid {p : Addr} {o : HO} (hp : H p = none) : Ext ρ H ρ (upd H p o) :=
  ⟨fun _ _ h => h, fun _ h => .inl h, fun b u _ e => by rw [upd_ne (ne_of_none e hp)]; exact e⟩
theorem Rep.fresh (r : Rep K ca ρ G H) {p : Addr} (hp : H p = none) : p ∉ ρ := fun hm => by
  obtain ⟨n, hn⟩ := mem_at hm
  obtain ⟨o, _, ho⟩ := r.at hn
  cases o with
  | lst ws => obtain ⟨_, e, _⟩ := ho; rw [hp] at e; cases e
  | dK ws => obtain ⟨_, e, _⟩ := ho; rw [hp] at e; cases e
  | dT ws => obtain ⟨_, e, _⟩ := ho; rw [hp] at e; cases e
  | ins c fs => obtain ⟨_, _, e, _⟩ := ho; rw [hp] at e; cases e
  | tb k q => obtain ⟨_, _, e, _⟩ := ho; rw [hp] at e; cases e
theorem Rep.laid (r : Rep K ca ρ G H) {p : Addr} {o : HO} (hp : H p = none) : Rep K ca ρ G (upd H p o) := by
  refine ⟨r.len, r.nd, fun n a u e1 e2 => objR_mono (r.obj n a u e1 e2) (fun _ _ h => h) (Stay.laid hp) (upd_ne fun e => ?_)⟩
  subst e
  exact r.fresh hp (List.mem_of_getElem? e1)
/-- a list that nobody held gets a place -/
theorem Rep.take (r : Rep K ca ρ G H) {p : Addr} {vs : List V} {ws : List W} (hn : p ∉ ρ) (hp : H p = some (.lst vs)) (q : RelWs K ca ρ H vs ws) : Rep K ca (ρ ++ [p]) (G ++ [.lst ws]) H := by
  have pre : ∀ (n : Nat) a, ρ[n]? = some a → (ρ ++ [p])[n]? = some a := fun n a e => by
    rw [List.getElem?_append_left (List.getElem?_eq_some_iff.mp e).1]; exact e
  refine ⟨by simp [r.len], ?_, fun n a o e1 e2 => ?_⟩
  · rw [List.nodup_append]
    refine ⟨r.nd, by simp, fun a ha b hb e => ?_⟩
    have : b = p := by simpa using hb
    exact hn (by rw [← this, ← e]; exact ha)
  · by_cases hl : n < ρ.length
    · rw [List.getElem?_append_left hl] at e1
      rw [List.getElem?_append_left (by rw [← r.len]; exact hl)] at e2
      exact objR_mono (r.obj n a o e1 e2) pre Stay.refl rfl
    · have hl2 : ρ.length ≤ n := Nat.le_of_not_lt hl
      rw [List.getElem?_append_right hl2] at e1
      rw [List.getElem?_append_right (by rw [← r.len]; exact hl2), ← r.len] at e2
      cases h0 : n - ρ.length with
      | zero =>
        rw [h0] at e1 e2
        simp at e1 e2
        subst e1; subst e2
        exact ⟨vs, hp, paired_imp q fun _ _ z => z.mono pre Stay.refl⟩
      | succ k =>
        rw [h0] at e1
        simp at e1
theorem Ext.take {H0 : Hp} {ρ0 : List Addr} {p : Addr} (x : Ext ρ0 H0 ρ H) (h0 : H0 p = none) : Ext ρ0 H0 (ρ ++ [p]) H :=
  ⟨fun n a e => by
    have e' := x.pre n a e
    rw [List.getElem?_append_left (List.getElem?_eq_some_iff.mp e').1]; exact e', fun a h => by
    rcases List.mem_append.mp h with h | h
    · exact x.new a h
    · have e : a = p := by simpa using h
      exact .inr (e ▸ h0), x.keep⟩
end
end Sy
set_option Elab.async false
set_option linter.all false
set_option maxRecDepth 100000
set_option maxHeartbeats 4000000
namespace Sy
open PySem PySem.Spec PyProof.Rows L2

/-! what is asked behind a computation -/
section
variable (K : PySem.W.Frag) (ca : Nat → Addr)
def Post {α : Type} (Wx : WX) (σ : SSt) (ρ : List Addr) (H : Hp) (P : α → GH → List Addr → Hp → Prop) : R α → Prop
  | .ok a G' => ∀ ρ' H', Ext ρ H ρ' H' → Rep K ca ρ' G' H' → P a G' ρ' H'
  | .ex c fs G' => ∀ ρ' H' d, Ext ρ H ρ' H' → Rep K ca ρ' G' H' → ExF K ca ρ' H' d fs → Wx (.ref (ca c)) d σ H'
  | .bad => False
end
section
variable {K : PySem.W.Frag} {ca : Nat → Addr} {Wx : WX} {σ : SSt} {ρ ρ1 : List Addr} {H H1 : Hp} {α β : Type} {P Q : α → GH → List Addr → Hp → Prop}
theorem Post.imp {r : R α} (h : Post K ca Wx σ ρ H P r) (f : ∀ a G' ρ' H', Ext ρ H ρ' H' → Rep K ca ρ' G' H' → P a G' ρ' H' → Q a G' ρ' H') : Post K ca Wx σ ρ H Q r := by
  cases r with
  | ok a G' => exact fun ρ' H' x r => f a G' ρ' H' x r (h ρ' H' x r)
  | ex c fs G' => exact h
  | bad => exact h
/-- seen from a later state -/
theorem Post.later {r : R α} (h : Post K ca Wx σ ρ H P r) (x : Ext ρ H ρ1 H1) : Post K ca Wx σ ρ1 H1 P r := by
  cases r with
  | ok a G' => exact fun ρ' H' y r => h ρ' H' (x.trans y) r
  | ex c fs G' => exact fun ρ' H' d y r e => h ρ' H' d (x.trans y) r e
  | bad => exact h
theorem Post.bind {r : R α} {k : α → GH → R β} {P : β → GH → List Addr → Hp → Prop} (h : Post K ca Wx σ ρ H P (r.bind k)) :
    Post K ca Wx σ ρ H (fun a G1 ρ1 H1 => Post K ca Wx σ ρ1 H1 P (k a G1)) r := by
  cases r with
  | ok a G' => exact fun ρ' H' x _ => Post.later h x
  | ex c fs G' => exact h
  | bad => exact h
/-- .. with where it is seen from -/
theorem Post.bindX {r : R α} {k : α → GH → R β} {P : β → GH → List Addr → Hp → Prop} (h : Post K ca Wx σ ρ H P (r.bind k)) :
    Post K ca Wx σ ρ H (fun a G1 ρ1 H1 => Ext ρ H ρ1 H1 ∧ Post K ca Wx σ ρ1 H1 P (k a G1)) r :=
  h.bind.imp fun _ _ _ _ x _ q => ⟨x, q⟩
end

abbrev M (α : Type) := Sl → GH → R α
section
variable (K : PySem.W.Frag) (ca : Nat → Addr)
/-- an expression's, a test's, an argument list's reading by a computation -/
def tE (Wx : WX) (m : M T) : TE := fun σ H Q => ∃ ρ G τ, Rep K ca ρ G H ∧ RelS K ca ρ H σ τ ∧ Post K ca Wx σ ρ H (fun t _ ρ' H' => ∀ v, RelT K ca H ρ' H' v t → Q v H') (m τ G)
def tT (Wx : WX) (m : M Bool) : TT := fun σ H Q => ∃ ρ G τ, Rep K ca ρ G H ∧ RelS K ca ρ H σ τ ∧ Post K ca Wx σ ρ H (fun b _ _ H' => Q b H') (m τ G)
def tA (Wx : WX) (m : M (List W)) : TA := fun σ H Q => ∃ ρ G τ, Rep K ca ρ G H ∧ RelS K ca ρ H σ τ ∧ Post K ca Wx σ ρ H (fun ws _ ρ' H' => ∀ vs, RelWs K ca ρ' H' vs ws → Q vs H') (m τ G)
end

/-- an outcome of statements -/
inductive RS where
  | nx (τ : Sl) (G : GH) | rt (w : W) (G : GH) | bk (τ : Sl) (G : GH) | ct (τ : Sl) (G : GH) | ex (c : Nat) (fs : List (Str × W)) (τ : Sl) (G : GH) | bad
abbrev MS := Sl → GH → RS
section
variable (K : PySem.W.Frag) (ca : Nat → Addr)
def PostS (Wx : WX) (D : Ends) (ρ : List Addr) (H : Hp) : RS → Prop
  | .nx τ G' => ∀ ρ' H' σ', Ext ρ H ρ' H' → Rep K ca ρ' G' H' → RelS K ca ρ' H' σ' τ → D.nx σ' H'
  | .bk τ G' => ∀ ρ' H' σ', Ext ρ H ρ' H' → Rep K ca ρ' G' H' → RelS K ca ρ' H' σ' τ → D.bk σ' H'
  | .ct τ G' => ∀ ρ' H' σ', Ext ρ H ρ' H' → Rep K ca ρ' G' H' → RelS K ca ρ' H' σ' τ → D.ct σ' H'
  | .rt w G' => ∀ ρ' H' v, Ext ρ H ρ' H' → Rep K ca ρ' G' H' → RelW K ca ρ' H' v w → D.rt v H'
  | .ex c fs τ G' => ∀ ρ' H' d σ', Ext ρ H ρ' H' → Rep K ca ρ' G' H' → RelS K ca ρ' H' σ' τ → ExF K ca ρ' H' d fs → Wx (.ref (ca c)) d σ' H'
  | .bad => False
def tS (Wx : WX) (m : MS) : TS := fun D σ H => ∃ ρ G τ, Rep K ca ρ G H ∧ RelS K ca ρ H σ τ ∧ PostS K ca Wx D ρ H (m τ G)
end
theorem PostS.later {K : PySem.W.Frag} {ca : Nat → Addr} {Wx : WX} {D : Ends} {ρ ρ1 : List Addr} {H H1 : Hp} {r : RS} (h : PostS K ca Wx D ρ H r) (x : Ext ρ H ρ1 H1) : PostS K ca Wx D ρ1 H1 r := by
  cases r with
  | nx τ G' => exact fun ρ' H' s y r => h ρ' H' s (x.trans y) r
  | bk τ G' => exact fun ρ' H' s y r => h ρ' H' s (x.trans y) r
  | ct τ G' => exact fun ρ' H' s y r => h ρ' H' s (x.trans y) r
  | rt w G' => exact fun ρ' H' s y r => h ρ' H' s (x.trans y) r
  | ex c fs τ G' => exact fun ρ' H' d s y r => h ρ' H' d s (x.trans y) r
  | bad => exact h

/-! weaker readings -/
theorem PE.weak {X : Cx} {e : Expr} {t t' : TE} (h : PE X e t) (f : ∀ σ H Q, t' σ H Q → t σ H Q) : PE X e t' := ⟨fun pins s σ H Q I q => h.run pins s σ H Q I (f σ H Q q)⟩
theorem PT.weak {X : Cx} {e : Expr} {t t' : TT} (h : PT X e t) (f : ∀ σ H Q, t' σ H Q → t σ H Q) : PT X e t' := ⟨fun pins s σ H Q I q => h.run pins s σ H Q I (f σ H Q q)⟩
theorem PA.weak {X : Cx} {e : List Expr} {t t' : TA} (h : PA X e t) (f : ∀ σ H Q, t' σ H Q → t σ H Q) : PA X e t' := ⟨fun pos pins s σ H Q I q => h.run pos pins s σ H Q I (f σ H Q q)⟩
theorem PS.weak {X : Cx} {e : Stmt} {t t' : TS} (h : PS X e t) (f : ∀ D σ H, t' D σ H → t D σ H) : PS X e t' := ⟨fun pins s σ H D I q => h.run pins s σ H D I (f D σ H q)⟩
theorem PSs.weak {X : Cx} {e : List Stmt} {t t' : TS} (h : PSs X e t) (f : ∀ D σ H, t' D σ H → t D σ H) : PSs X e t' := ⟨fun pins s σ H D I q => h.run pins s σ H D I (f D σ H q)⟩

/-! computations -/
def mVar (i : Nat) : M T := fun τ G => match τ[i]? with | some (some w) => .ok (.val w) G | _ => .bad
def mC (w : W) : M T := fun _ G => .ok (.val w) G
def mBin (f : T → T → GH → R T) (a b : M T) : M T := fun τ G => (a τ G).bind fun x G1 => (b τ G1).bind fun y G2 => f x y G2
def mUn (f : T → GH → R T) (a : M T) : M T := fun τ G => (a τ G).bind f
def force : T → GH → R W
  | .val w, G => .ok w G
  | .tmp ws, G => .ok (.loc G.length) (G ++ [.lst ws])
def mF (a : M T) : M W := fun τ G => (a τ G).bind force
def mNil : M (List W) := fun _ G => .ok [] G
def mCons (a : M T) (r : M (List W)) : M (List W) := fun τ G => ((a τ G).bind force).bind fun w G1 => (r τ G1).bind fun ws G2 => .ok (w :: ws) G2
def mLst (a : M (List W)) : M T := fun τ G => (a τ G).bind fun ws G1 => if ws.length ≤ 16777216 then .ok (.tmp ws) G1 else .bad
def mTup (a : M (List W)) : M T := fun τ G => (a τ G).bind fun ws G1 => if ws.length ≤ 16777216 then .ok (.val (.tup ws)) G1 else .bad
/-- a value that is True or False -/
def asB : T → GH → R Bool
  | .val (.bl b), G => .ok b G
  | _, _ => .bad
def mB (a : M T) : M Bool := fun τ G => (a τ G).bind asB
def mOfB (a : M Bool) : M T := fun τ G => (a τ G).bind fun b G1 => .ok (.val (.bl b)) G1
def mAnd (a b : M Bool) : M Bool := fun τ G => (a τ G).bind fun x G1 => if x then b τ G1 else .ok false G1
def mOr (a b : M Bool) : M Bool := fun τ G => (a τ G).bind fun x G1 => if x then .ok true G1 else b τ G1
def mNot (a : M Bool) : M Bool := fun τ G => (a τ G).bind fun x G1 => .ok (!x) G1
def mIf (c : M Bool) (a b : M T) : M T := fun τ G => (c τ G).bind fun x G1 => if x then a τ G1 else b τ G1

section
variable {X : Cx} {ca : Nat → Addr} {Wx : WX} {σ : SSt} {H : Hp} {ρ : List Addr} {G : GH} {τ : Sl}
/-- the step that all rules take -/
theorem tE.start {m : M T} {Q : VK} (r : Rep X.K ca ρ G H) (s : RelS X.K ca ρ H σ τ) (h : Post X.K ca Wx σ ρ H (fun t _ ρ' H' => ∀ v, RelT X.K ca H ρ' H' v t → Q v H') (m τ G)) : tE X.K ca Wx m σ H Q := ⟨ρ, G, τ, r, s, h⟩
theorem tE.seq {α : Type} {m : M T} {k : T → GH → R α} {P : α → GH → List Addr → Hp → Prop} {Q : VK} (r : Rep X.K ca ρ G H) (s : RelS X.K ca ρ H σ τ) (h : Post X.K ca Wx σ ρ H P ((m τ G).bind k))
    (hk : ∀ t G1 ρ1 H1 v, Ext ρ H ρ1 H1 → Rep X.K ca ρ1 G1 H1 → RelS X.K ca ρ1 H1 σ τ → RelT X.K ca H ρ1 H1 v t → Post X.K ca Wx σ ρ1 H1 P (k t G1) → Q v H1) : tE X.K ca Wx m σ H Q :=
  ⟨ρ, G, τ, r, s, h.bind.imp fun t G1 ρ1 H1 x r1 q v rv => hk t G1 ρ1 H1 v x r1 (s.ext r x) rv q⟩
theorem s_var {i : Nat} {x : Str} {pos : Pos} (hN : X.N[i]? = some x) (hv : Vis X.env.scope x) (hd : (x == ("__debug__" : Str)) = false := by decide) (hcd : (x == ("__classdict__" : Str)) = false := by decide) : PE X (.Name x pos) (tE X.K ca Wx (mVar i)) := by
  refine PE.weak (pe_var hN hv hd hcd) fun σ H Q ⟨ρ, G, τ, r, s, h⟩ => ?_
  unfold mVar at h
  cases e : τ[i]? with
  | none => rw [e] at h; exact h.elim
  | some o =>
    cases o with
    | none => rw [e] at h; exact h.elim
    | some w =>
      rw [e] at h
      obtain ⟨v, e1, q⟩ := s.2 i w e
      exact ⟨v, e1, h ρ H .refl r v q⟩
theorem s_const {e : Expr} {v : V} {w : W} (h : PE X e (tC v)) (hw : ∀ ρ H, RelW X.K ca ρ H v w) : PE X e (tE X.K ca Wx (mC w)) :=
  PE.weak h fun σ H Q ⟨ρ, G, τ, r, s, q⟩ => q ρ H .refl r v (hw ρ H)
theorem s_int {i j pos} : PE X (.Constant (.int i) j pos) (tE X.K ca Wx (mC (.int i))) := s_const pe_int fun _ _ => .int i
theorem s_bl {i j pos} : PE X (.Constant (.bool i) j pos) (tE X.K ca Wx (mC (.bl i))) := s_const pe_bl fun _ _ => .bl i
theorem s_non {j pos} : PE X (.Constant .none j pos) (tE X.K ca Wx (mC .non)) := s_const pe_non fun _ _ => .non
theorem s_str {i j pos} : PE X (.Constant (.str i) j pos) (tE X.K ca Wx (mC (.str i))) := s_const pe_str fun _ _ => .str i

/-- f says what r asks -/
def Says2 (X : Cx) (ca : Nat → Addr) (r : R2) (f : T → T → GH → R T) : Prop :=
  ∀ (Wx : WX) (σ : SSt) (ρ : List Addr) (G : GH) (H H0 : Hp) (x y : V) (s t : T) (Q : VK), Rep X.K ca ρ G H → RelT X.K ca H0 ρ H x s → RelT X.K ca H0 ρ H y t →
    Post X.K ca Wx σ ρ H (fun t _ ρ' H' => ∀ v, RelT X.K ca H ρ' H' v t → Q v H') (f s t G) → r x y H Q
theorem says_in {r : R2} {f : T → T → GH → R T} (hs : Says2 X ca r f) {ma mb : M T} {Q : VK} (h : tE X.K ca Wx (mBin f ma mb) σ H Q) :
    tE X.K ca Wx ma σ H fun x H1 => tE X.K ca Wx mb σ H1 fun y H2 => r x y H2 Q := by
  obtain ⟨ρ, G, τ, r0, s0, h⟩ := h
  refine tE.seq r0 s0 h fun t1 G1 ρ1 H1 v1 x1 r1 s1 q1 h1 => ?_
  refine tE.seq r1 s1 h1 fun t2 G2 ρ2 H2 v2 x2 r2 s2 q2 h2 => ?_
  refine hs Wx σ ρ2 G2 H2 H v1 v2 t1 t2 Q r2 (q1.ext r1 x2) (q2.back x1 x2) (h2.imp fun t G' ρ' H' x' _ q v rv => q v (rv.back (x1.trans x2) x'))
theorem s_bin {a b : Expr} {op : Operator} {pos : Pos} {r : R2} {f : T → T → GH → R T} {ma mb : M T} (ho : OpR X (binaryOp op) r) (hs : Says2 X ca r f) (ha : PE X a (tE X.K ca Wx ma)) (hb : PE X b (tE X.K ca Wx mb)) :
    PE X (.BinOp a op b pos) (tE X.K ca Wx (mBin f ma mb)) := PE.weak (pe_op ho ha hb) fun _ _ _ h => says_in hs h
theorem s_cmp {a b : Expr} {op : CmpOp} {pos : Pos} {r : R2} {f : T → T → GH → R T} {ma mb : M T} (ho : OpR X (compareOp op) r) (hs : Says2 X ca r f) (ha : PE X a (tE X.K ca Wx ma)) (hb : PE X b (tE X.K ca Wx mb)) (hm : behindInMarks op b = false) :
    PE X (.Compare a [op] [b] pos) (tE X.K ca Wx (mBin f ma mb)) := PE.weak (pe_cmpR ho ha hb hm) fun _ _ _ h => says_in hs h

/-! tests -/
theorem tTest_of {m : M T} {Q : Bool → Hp → Prop} (h : tT X.K ca Wx (mB m) σ H Q) : tTest (tE X.K ca Wx m) σ H Q := by
  obtain ⟨ρ, G, τ, r0, s0, h⟩ := h
  refine tE.seq r0 s0 h fun t1 G1 ρ1 H1 v1 x1 r1 s1 q1 h1 => ?_
  cases t1 with
  | tmp ws => exact h1.elim
  | val w =>
    cases w with
    | bl b =>
      cases q1
      exact ⟨b, rfl, h1 ρ1 H1 .refl r1⟩
    | _ => exact h1.elim
theorem s_testCmp {a b : Expr} {op : CmpOp} {pos : Pos} {r : R2} {f : T → T → GH → R T} {ma mb : M T} (ho : OpR X (compareOp op) r) (hs : Says2 X ca r f) (ha : PE X a (tE X.K ca Wx ma)) (hb : PE X b (tE X.K ca Wx mb)) (hm : behindInMarks op b = false) :
    PT X (.Compare a [op] [b] pos) (tT X.K ca Wx (mB (mBin f ma mb))) := by
  refine PT.weak (pt_cmpR ho ha hb hm) fun σ H Q h => ?_
  obtain ⟨ρ, G, τ, r0, s0, h⟩ := h
  have h' := tTest_of ⟨ρ, G, τ, r0, s0, h⟩
  exact says_in hs h'
/-- an expression that is True or False, as a test -/
theorem s_test {e : Expr} {m : M T} (h : PE X e (tE X.K ca Wx m)) (he : ∀ whole, isTrue e X.env whole = (do let v ← whole; standAt e.pos; holding [v] (truthy v)) := by intro _; rfl) : PT X e (tT X.K ca Wx (mB m)) := by
  refine PT.weak (pt_val h he) fun σ H Q h => ?_
  exact tTest_of h
theorem tT.seq {α : Type} {m : M Bool} {k : Bool → GH → R α} {P : α → GH → List Addr → Hp → Prop} {Q : Bool → Hp → Prop} (r : Rep X.K ca ρ G H) (s : RelS X.K ca ρ H σ τ) (h : Post X.K ca Wx σ ρ H P ((m τ G).bind k))
    (hk : ∀ b G1 ρ1 H1, Ext ρ H ρ1 H1 → Rep X.K ca ρ1 G1 H1 → RelS X.K ca ρ1 H1 σ τ → Post X.K ca Wx σ ρ1 H1 P (k b G1) → Q b H1) : tT X.K ca Wx m σ H Q :=
  ⟨ρ, G, τ, r, s, h.bind.imp fun t G1 ρ1 H1 x r1 q => hk t G1 ρ1 H1 x r1 (s.ext r x) q⟩
section
variable {a b : Expr} {rest : List Expr} {pos : Pos} {ma mb : M Bool}
theorem w_and1 (ha : PT X a (tT X.K ca Wx ma)) : PW X (.BoolOp .And [a] pos) (tT X.K ca Wx ma) := pw_and1 ha
theorem w_or1 (ha : PT X a (tT X.K ca Wx ma)) : PW X (.BoolOp .Or [a] pos) (tT X.K ca Wx ma) := pw_or1 ha
theorem PW.weak {X : Cx} {e : Expr} {t t' : TT} (h : PW X e t) (f : ∀ σ H Q, t' σ H Q → t σ H Q) : PW X e t' := ⟨fun wh pins s σ H Q I q => h.run wh pins s σ H Q I (f σ H Q q)⟩
theorem w_and (ha : PT X a (tT X.K ca Wx ma)) (hb : PW X (.BoolOp .And (b :: rest) pos) (tT X.K ca Wx mb)) : PW X (.BoolOp .And (a :: b :: rest) pos) (tT X.K ca Wx (mAnd ma mb)) := by
  refine PW.weak (pw_and ha hb) fun σ H Q ⟨ρ, G, τ, r0, s0, h⟩ => ?_
  refine tT.seq r0 s0 h fun c G1 ρ1 H1 x1 r1 s1 h1 => ?_
  cases c with
  | true => exact ⟨ρ1, G1, τ, r1, s1, h1⟩
  | false => exact h1 ρ1 H1 .refl r1
theorem w_or (ha : PT X a (tT X.K ca Wx ma)) (hb : PW X (.BoolOp .Or (b :: rest) pos) (tT X.K ca Wx mb)) : PW X (.BoolOp .Or (a :: b :: rest) pos) (tT X.K ca Wx (mOr ma mb)) := by
  refine PW.weak (pw_or ha hb) fun σ H Q ⟨ρ, G, τ, r0, s0, h⟩ => ?_
  refine tT.seq r0 s0 h fun c G1 ρ1 H1 x1 r1 s1 h1 => ?_
  cases c with
  | true => exact h1 ρ1 H1 .refl r1
  | false => exact ⟨ρ1, G1, τ, r1, s1, h1⟩
theorem s_tnot (ha : PT X a (tT X.K ca Wx ma)) : PT X (.UnaryOp .Not a pos) (tT X.K ca Wx (mNot ma)) := by
  refine PT.weak (pt_not ha) fun σ H Q ⟨ρ, G, τ, r0, s0, h⟩ => ?_
  exact tT.seq r0 s0 h fun c G1 ρ1 H1 x1 r1 s1 h1 => h1 ρ1 H1 .refl r1
end
/-! and, or, not as values that are True or False -/
section
variable {a b : Expr} {rest : List Expr} {pos : Pos} {ma mb : M T}
theorem v_one {op} (ha : PE X a (tE X.K ca Wx ma)) : PE X (.BoolOp op [a] pos) (tE X.K ca Wx ma) := pe_one ha
def mAndV (a b : M T) : M T := fun τ G => (a τ G).bind fun x G1 => (asB x G1).bind fun c G2 => if c then b τ G2 else .ok (.val (.bl false)) G2
def mOrV (a b : M T) : M T := fun τ G => (a τ G).bind fun x G1 => (asB x G1).bind fun c G2 => if c then .ok (.val (.bl true)) G2 else b τ G2
def mNotV (a : M T) : M T := fun τ G => (a τ G).bind fun x G1 => (asB x G1).bind fun c G2 => .ok (.val (.bl (!c))) G2
theorem asB_of {α : Type} {t1 : T} {G1 : GH} {ρ1 : List Addr} {H0 H1 : Hp} {v1 : V} {P : α → GH → List Addr → Hp → Prop} {k : Bool → GH → R α} (q1 : RelT X.K ca H0 ρ1 H1 v1 t1) (h : Post X.K ca Wx σ ρ1 H1 P ((asB t1 G1).bind k)) :
    ∃ c, v1 = .bl c ∧ Post X.K ca Wx σ ρ1 H1 P (k c G1) := by
  cases t1 with
  | tmp ws => exact h.elim
  | val w =>
    cases w with
    | bl b =>
      cases q1
      exact ⟨b, rfl, h⟩
    | _ => exact h.elim
theorem v_and (ha : PE X a (tE X.K ca Wx ma)) (hb : PE X (.BoolOp .And (b :: rest) pos) (tE X.K ca Wx mb)) : PE X (.BoolOp .And (a :: b :: rest) pos) (tE X.K ca Wx (mAndV ma mb)) := by
  refine PE.weak (pe_and ha hb) fun σ H Q ⟨ρ, G, τ, r0, s0, h⟩ => ?_
  refine tE.seq r0 s0 h fun t1 G1 ρ1 H1 v1 x1 r1 s1 q1 h1 => ?_
  obtain ⟨c, e, h2⟩ := asB_of q1 h1
  refine ⟨c, e, ?_⟩
  cases c with
  | true => exact ⟨ρ1, G1, τ, r1, s1, Post.imp h2 fun t _ ρ' H' x' _ q v rv => q v (rv.back x1 x')⟩
  | false => exact h2 ρ1 H1 .refl r1 _ (.bl false)
theorem v_or (ha : PE X a (tE X.K ca Wx ma)) (hb : PE X (.BoolOp .Or (b :: rest) pos) (tE X.K ca Wx mb)) : PE X (.BoolOp .Or (a :: b :: rest) pos) (tE X.K ca Wx (mOrV ma mb)) := by
  refine PE.weak (pe_or ha hb) fun σ H Q ⟨ρ, G, τ, r0, s0, h⟩ => ?_
  refine tE.seq r0 s0 h fun t1 G1 ρ1 H1 v1 x1 r1 s1 q1 h1 => ?_
  obtain ⟨c, e, h2⟩ := asB_of q1 h1
  refine ⟨c, e, ?_⟩
  cases c with
  | true => exact h2 ρ1 H1 .refl r1 _ (.bl true)
  | false => exact ⟨ρ1, G1, τ, r1, s1, Post.imp h2 fun t _ ρ' H' x' _ q v rv => q v (rv.back x1 x')⟩
theorem v_not (ha : PE X a (tE X.K ca Wx ma)) : PE X (.UnaryOp .Not a pos) (tE X.K ca Wx (mNotV ma)) := by
  refine PE.weak (pe_not ha) fun σ H Q ⟨ρ, G, τ, r0, s0, h⟩ => ?_
  refine tE.seq r0 s0 h fun t1 G1 ρ1 H1 v1 x1 r1 s1 q1 h1 => ?_
  obtain ⟨c, e, h2⟩ := asB_of q1 h1
  exact ⟨c, e, h2 ρ1 H1 .refl r1 _ (.bl _)⟩
theorem s_ife {c : Expr} {mc : M Bool} (hc : PT X c (tT X.K ca Wx mc)) (ha : PE X a (tE X.K ca Wx ma)) (hb : PE X b (tE X.K ca Wx mb)) : PE X (.IfExp c a b pos) (tE X.K ca Wx (mIf mc ma mb)) := by
  refine PE.weak (pe_ifExp hc ha hb) fun σ H Q ⟨ρ, G, τ, r0, s0, h⟩ => ?_
  refine tT.seq r0 s0 h fun c G1 ρ1 H1 x1 r1 s1 h1 => ?_
  cases c with
  | true => exact ⟨ρ1, G1, τ, r1, s1, Post.imp h1 fun t _ ρ' H' x' _ q v rv => q v (rv.back x1 x')⟩
  | false => exact ⟨ρ1, G1, τ, r1, s1, Post.imp h1 fun t _ ρ' H' x' _ q v rv => q v (rv.back x1 x')⟩
end

/-! argument lists, displays -/
theorem force_ok {α : Type} {t1 : T} {G1 : GH} {ρ0 ρ1 : List Addr} {H0 H1 : Hp} {v1 : V} {P : α → GH → List Addr → Hp → Prop} {k : W → GH → R α} (x : Ext ρ0 H0 ρ1 H1) (r1 : Rep X.K ca ρ1 G1 H1) (q1 : RelT X.K ca H0 ρ1 H1 v1 t1)
    (h : Post X.K ca Wx σ ρ0 H0 P ((force t1 G1).bind k)) :
    ∃ w G2 ρ2, Ext ρ0 H0 ρ2 H1 ∧ Rep X.K ca ρ2 G2 H1 ∧ RelW X.K ca ρ2 H1 v1 w ∧ (∀ (n : Nat) a, ρ1[n]? = some a → ρ2[n]? = some a) ∧ Post X.K ca Wx σ ρ2 H1 P (k w G2) := by
  cases t1 with
  | val w => exact ⟨w, G1, ρ1, x, r1, q1, fun _ _ e => e, Post.later h x⟩
  | tmp ws =>
    obtain ⟨p, vs, e, hn, h0, hp, hv⟩ := q1
    subst e
    have y := x.take h0
    refine ⟨.loc G1.length, G1 ++ [.lst ws], ρ1 ++ [p], y, r1.take hn hp hv, .loc ?_, fun n a e => ?_, Post.later h y⟩
    · rw [← r1.len]
      simp
    · rw [List.getElem?_append_left (List.getElem?_eq_some_iff.mp e).1]; exact e
theorem RelS.pre {K : PySem.W.Frag} {ρ ρ' : List Addr} (h : RelS K ca ρ H σ τ) (hp : ∀ (n : Nat) a, ρ[n]? = some a → ρ'[n]? = some a) : RelS K ca ρ' H σ τ :=
  ⟨h.1, fun i w e => let ⟨v, e1, q⟩ := h.2 i w e; ⟨v, e1, q.mono hp Stay.refl⟩⟩
/-- an expression, then forced: as all rules take it -/
theorem tE.seqF {α : Type} {m : M T} {k : W → GH → R α} {P : α → GH → List Addr → Hp → Prop} {Q : VK} (r : Rep X.K ca ρ G H) (s : RelS X.K ca ρ H σ τ) (h : Post X.K ca Wx σ ρ H P (((m τ G).bind force).bind k))
    (hk : ∀ w G1 ρ1 H1 v, Ext ρ H ρ1 H1 → Rep X.K ca ρ1 G1 H1 → RelS X.K ca ρ1 H1 σ τ → RelW X.K ca ρ1 H1 v w → Post X.K ca Wx σ ρ1 H1 P (k w G1) → Q v H1) : tE X.K ca Wx m σ H Q := by
  have h2 : Post X.K ca Wx σ ρ H P ((m τ G).bind fun t G1 => (force t G1).bind k) := by
    cases e : m τ G with
    | ok t G1 => rw [e] at h; exact h
    | ex c fs G1 => rw [e] at h; exact h
    | bad => rw [e] at h; exact h
  refine ⟨ρ, G, τ, r, s, ?_⟩
  cases e : m τ G with
  | ok t G1 =>
    rw [e] at h2
    intro ρ1 H1 x1 r1 v q1
    obtain ⟨w, G2, ρ2, y, r2, q2, pre, h3⟩ := force_ok x1 r1 q1 h2
    exact hk w G2 ρ2 H1 v y r2 ((s.ext r x1).pre pre) q2 h3
  | ex c fs G1 => rw [e] at h2; exact h2
  | bad => rw [e] at h2; exact h2
theorem a_nil : PA X [] (tA X.K ca Wx mNil) := PA.weak pa_nil fun σ H Q ⟨ρ, G, τ, r0, s0, h⟩ => h ρ H .refl r0 [] .nil
theorem a_cons {e : Expr} {es : List Expr} {m : M T} {ms : M (List W)} (he : PE X e (tE X.K ca Wx m)) (hr : PA X es (tA X.K ca Wx ms)) (hs : starEach (e :: es) X.env = (false, eval e X.env) :: starEach es X.env := by rfl) :
    PA X (e :: es) (tA X.K ca Wx (mCons m ms)) := by
  refine PA.weak (pa_cons he hr hs) fun σ H Q ⟨ρ, G, τ, r0, s0, h⟩ => ?_
  refine tE.seqF r0 s0 h fun w G1 ρ1 H1 v x1 r1 s1 q1 h1 => ?_
  refine ⟨ρ1, G1, τ, r1, s1, h1.bind.imp fun ws G2 ρ2 H2 x2 r2 h2 vs qs => ?_⟩
  exact h2 ρ2 H2 .refl r2 (v :: vs) (.cons (q1.ext r1 x2) qs)
theorem tA.seq {α : Type} {m : M (List W)} {k : List W → GH → R α} {P : α → GH → List Addr → Hp → Prop} {Q : List V → Hp → Prop} (r : Rep X.K ca ρ G H) (s : RelS X.K ca ρ H σ τ) (h : Post X.K ca Wx σ ρ H P ((m τ G).bind k))
    (hk : ∀ ws G1 ρ1 H1 vs, Ext ρ H ρ1 H1 → Rep X.K ca ρ1 G1 H1 → RelS X.K ca ρ1 H1 σ τ → RelWs X.K ca ρ1 H1 vs ws → Post X.K ca Wx σ ρ1 H1 P (k ws G1) → Q vs H1) : tA X.K ca Wx m σ H Q :=
  ⟨ρ, G, τ, r, s, h.bind.imp fun ws G1 ρ1 H1 x r1 q vs rv => hk ws G1 ρ1 H1 vs x r1 (s.ext r x) rv q⟩
theorem s_tup {es : List Expr} {x1 : Nat} {pos : Pos} {ms : M (List W)} (h : PA X es (tA X.K ca Wx ms)) : PE X (.Tuple es x1 pos) (tE X.K ca Wx (mTup ms)) := by
  refine PE.weak (pe_tup h) fun σ H Q ⟨ρ, G, τ, r0, s0, h⟩ => ?_
  refine tA.seq r0 s0 h fun ws G1 ρ1 H1 vs x1 r1 s1 q1 h1 => ?_
  have hl := q1.length
  by_cases hz : ws.length ≤ 16777216
  · rw [if_pos hz] at h1
    refine ⟨by rw [sizeLine_eq]; omega, fun p hp => ?_⟩
    have x2 : Ext ρ1 H1 ρ1 (upd H1 p (.tup vs)) := Ext.laid hp
    exact h1 ρ1 _ x2 (r1.laid hp) _ (RelW.tup' (.of upd_same) (relWs_ext q1 r1 x2))
  · rw [if_neg hz] at h1
    exact h1.elim
theorem s_lst {es : List Expr} {pos : Pos} {ms : M (List W)} (h : PA X es (tA X.K ca Wx ms)) : PE X (.List es pos) (tE X.K ca Wx (mLst ms)) := by
  refine PE.weak (pe_lst h) fun σ H Q ⟨ρ, G, τ, r0, s0, h⟩ => ?_
  refine tA.seq r0 s0 h fun ws G1 ρ1 H1 vs x1 r1 s1 q1 h1 => ?_
  have hl := q1.length
  by_cases hz : ws.length ≤ 16777216
  · rw [if_pos hz] at h1
    refine ⟨by rw [sizeLine_eq]; omega, fun p hp => ?_⟩
    have x2 : Ext ρ1 H1 ρ1 (upd H1 p (.lst vs)) := Ext.laid hp
    refine h1 ρ1 _ x2 (r1.laid hp) _ ?_
    refine RelT.back (ρ := ρ1) (H := H1) ?_ x1 x2
    exact ⟨p, vs, rfl, r1.fresh hp, hp, upd_same, relWs_ext q1 r1 x2⟩
  · rw [if_neg hz] at h1
    exact h1.elim
end
end Sy
set_option Elab.async false
set_option linter.all false
set_option maxRecDepth 100000
set_option maxHeartbeats 4000000
/-! a tuple once; enumerate of a tuple -/
namespace Sy
open PySem PySem.Spec PyProof.Rows L2
theorem tupOnce (l : Addr) (items : Array Value) (n : Nat) (dd : Option Addr) (sl : Array (Option Value)) (u : Tok) :
    Meets (Builtin.«tuple.__mul__» ⟨[.ref l, .int 1 u], []⟩) (fun _ R s => s.heap.get? l = some { cls := .type "tuple", dict := dd, data := .seq items n, slots := sl } ∧ R (.ok (.ret (Value.ref l))) s) :=
  .of_wp fun prog w A R s h => by
    obtain ⟨hp, g, d, tk, os⟩ := s
    obtain ⟨hl, h⟩ := h
    have f1 := AutoSeq1.idx_int
    have c1 : (items.isEmpty || (1 : Int) == 1) = true := by simp
    wp_walk using AutoSeq1.wpAny_loadPart' hl
    repeat (first
      | (refine wpAny_ite_true (by rw [c1]) ?_; wp_walk using AutoSeq1.wpAny_loadPart' hl))
    exact ⟨_, rfl, h⟩
def rOneT (K : PySem.W.Frag) : R2 := fun x y H Q => ∃ l xs, x = .ref l ∧ y = .int 1 ∧ SqT K H l xs ∧ Q (.ref l) H
section
variable {X : Cx}
theorem op_oneT : OpR X (binaryOp .Mult) (rOneT X.K) := by
  intro pins s σ H x y v u Q I rx ry h
  obtain ⟨l, xs, rfl, rfl, hT, q⟩ := h
  cases rx
  obtain ⟨t, rfl⟩ := ry
  obtain ⟨its, r, ⟨⟨cls, dd, data, sl⟩, ho, hc, n, hd⟩, hs⟩ := I.tuple hT
  simp only at hc hd
  subst hc hd
  exact wpAny_binaryOp_repeat_ref (T := "tuple") (U := "int") (by decide) ⟨_, ho, rfl⟩ (fun s' => typeIs_int s' 1 t) noFill_tuple_mul F.fills_int_mul F.slot_int_rmul repeat_tuple F.slot_int_index.lookup
    (call_meets F.slot_int_rmul (typeIs_int s 1 t) F.entry_int_rmul (F.args_int_rmul_2 _ _) (int_rmul_tuple 1 t l its.toArray n dd sl)
      ⟨ho, rfl, ⟨_, ho, rfl⟩, call_meets F.slot_tuple_mul ⟨_, ho, rfl⟩ F.entry_tuple_mul (F.args_tuple_mul_2 _ _) (tupOnce l its.toArray n dd sl t) ⟨ho, .ref l, H, I, rfl, q⟩⟩)
end
/-! enumerate of a tuple -/
theorem enumNewT (l : Addr) (items : Array Value) (n : Nat) (dct : Option Addr) (sl : Array (Option Value)) :
    Meets (Builtin.«enumerate.__new__» ⟨[.type "enumerate", .ref l], []⟩) (fun _ R s => s.heap.get? l = some { cls := .type "tuple", dict := dct, data := .seq items n, slots := sl } ∧
      R (.ok (.ret (.ref (s.heap.push { cls := .type "tuple_iterator", data := .fields #[.ref l, .int 0 0] }).objs.size)))
        { s with heap := (s.heap.push { cls := .type "tuple_iterator", data := .fields #[.ref l, .int 0 0] }).push { cls := .type "enumerate", data := .fields #[.none, .bool false, .ref s.heap.objs.size, rawInt 0, .none, .none] } }) :=
  .of_wp fun prog w A R s h => by
    obtain ⟨hp, g, d, tk, os⟩ := s
    obtain ⟨hl, h⟩ := h
    have hsub := sub_enumerate
    have hLT : Heap.IsTuple (Shared.heap ⟨hp, g, d, tk, os⟩) l items := ⟨_, hl, rfl, n, rfl⟩
    wp_walk using AutoSeq1.wpAny_loadPart' hl
    refine wpAny_stack_any fun st => wpAny_pure ?_
    split
    · rename_i c _ _ _ _ _
      cases (c == Value.type "enumerate") <;>
      · wp_walk using AutoSeq1.wpAny_loadPart' hl, wpAny_pyIter_tuple hLT
        exact ⟨_, rfl, h⟩
    · wp_walk using AutoSeq1.wpAny_loadPart' hl, wpAny_pyIter_tuple hLT
      exact ⟨_, rfl, h⟩
theorem enumCallT {prog : Program} {w : World} {A : Around} {E : Value → Shared → Prop} {s : Shared} {l : Addr} {items : Array Value} {Q : Value → Shared → Prop} (hL : s.heap.IsTuple l items)
    (h : ∀ h', IsEnum h' (s.heap.objs.size + 1) s.heap.objs.size 0 .none → h'.IsTupleIter s.heap.objs.size l 0 →
      (∀ b o, s.heap.get? b = some o → h'.get? b = some o) → Q (.ref (s.heap.objs.size + 1)) { s with heap := h' }) :
    wpAny (model prog w) A (call (.type "enumerate") [.ref l]) Q E s := by
  obtain ⟨⟨c, dct, dt, sl⟩, hl, hc, n, hd⟩ := hL
  simp only at hc hd
  subst hc hd
  refine callType_new F.called_enumerate (by decide) (F.typeCall_enumerate_1 _) (F.newCall_enumerate_1 _) (fun obj => F.args_object_init_2 obj _) F.entry_enumerate_new (enumNewT l items n dct sl) ⟨hl, ?_⟩
  generalize eI : ({ cls := Value.type "tuple_iterator", data := .fields #[.ref l, .int 0 0] } : Obj) = oI
  have hz : (s.heap.push oI).objs.size = s.heap.objs.size + 1 := Heap.size_push ..
  rw [hz]
  generalize eE : ({ cls := Value.type "enumerate", data := .fields #[.none, .bool false, .ref s.heap.objs.size, rawInt 0, .none, .none] } : Obj) = oE
  have he : ((s.heap.push oI).push oE).get? (s.heap.objs.size + 1) = some oE := by
    have := Heap.get?_push_size (s.heap.push oI) (o := oE) (by rw [← eE]; rfl)
    rw [hz] at this
    exact this
  have hi : ((s.heap.push oI).push oE).get? s.heap.objs.size = some oI := Heap.get?_push_of_some _ (Heap.get?_push_size _ (by rw [← eI]; rfl))
  refine ⟨⟨_, he, by rw [← eE]⟩, h _ ?_ ⟨_, hi, by rw [← eI], by rw [← eI]; rfl⟩ fun b o x => Heap.get?_push_of_some _ (Heap.get?_push_of_some _ x)⟩
  show Heap.get? _ _ = _
  rw [he, ← eE]
theorem drawsT {prog : Program} {w : World} {A : Around} (hh : A.handled = none) (it l : Addr) (hne : l ≠ it) (items : Array Value) :
    Draws prog w A it [it, l] items.size (fun i v => items[i]? = some v) (fun i h => h.IsTupleIter it l i ∧ h.IsTuple l items) where
  live := fun _ _ st => let ⟨o, ho, _⟩ := st.1; ⟨o, ho⟩
  frame := fun _ _ _ st hk => ⟨st.1.at fun o e => hk it (by simp) o e, let ⟨o, ho, r⟩ := st.2; ⟨o, hk l (by simp) o ho, r⟩⟩
  item := fun i s Q E hi st hQ => by
    refine RZ.nextOf_tuple_item st.1 st.2 (x := items[i]) (by simp [hi]) fun h' hit' hs' => ?_
    exact hQ _ h' s.toks (by simp [hi]) ⟨hit', st.2.extBut hs'.extBut hne⟩ hs'
  done := fun s Q E st hE => RZ.nextOf_tuple_end hh st.1 st.2 (by simp) hE
/-- the tuple at a, each item in a new pair with its number -/
def IteT (K : PySem.W.Frag) (a : Addr) : It :=
  ⟨fun i H => ∃ (xs : List V) (x : V), SqT K H a xs ∧ xs[i]? = some x,
    fun i H v H' => ∃ T x, v = .ref T ∧ H T = none ∧ H' = upd H T (.tup [.int (i : Nat), x]) ∧ ∀ xs, SqT K H a xs → xs[i]? = some x,
    fun i H => ∃ xs : List V, SqT K H a xs ∧ xs.length ≤ i⟩
theorem turn_enumT {P : Program} {w : World} {K : PySem.W.Frag} {elts : List Expr} {kk : Nat} {tpos : Pos} (a e it : Addr) :
    Turn P w K (.Tuple elts kk tpos) (IteT K a) [e, it] e (fun i h => (∃ old, IsEnum h e it ((i : Nat) : Int) old) ∧ h.IsTupleIter it a i ∧ e ≠ it ∧ e ≠ a ∧ a ≠ it) where
  mem := List.mem_cons_self
  obj := fun i h st b hb => by
    obtain ⟨⟨old, he⟩, ⟨o, ho, hc, hd⟩, _⟩ := st
    rcases (show b = e ∨ b = it by simpa using hb) with z | z
    · rw [z]
      exact ⟨_, he, fun v q => nomatch q⟩
    · rw [z]
      exact ⟨o, ho, fun v q => by rw [hd] at q; cases q⟩
  keep := fun i h h' st k => by
    obtain ⟨⟨old, he⟩, hi, hne⟩ := st
    exact ⟨⟨old, k e List.mem_cons_self _ he⟩, hi.at fun o q => k it (by simp) o q, hne⟩
  item := by
    intro X hP hw hK hc i pins s σ H E I hf st hg
    subst hP hw hK
    obtain ⟨⟨old, he⟩, hit, hne, hea, hai⟩ := st
    obtain ⟨xs, x, hq, hx⟩ := hg
    obtain ⟨its, rv, p, hz⟩ := I.tuple hq
    obtain ⟨u, hu, ru⟩ := rv.get hx
    have hel : e < s.heap.objs.size := Heap.lt_size he
    have hil : it < s.heap.objs.size := let ⟨_, q, _⟩ := hit; Heap.lt_size q
    have hD := drawsT (prog := X.prog) (w := X.w) (A := X.A.in1) (I.ok.hd hc) it a hai its.toArray
    have hlt : i < its.toArray.size := by
      have := (List.getElem?_eq_some_iff.mp hu).1
      simpa using this
    refine wpAny_pyNext_enum_itemD hD he ⟨hit, p⟩ hlt hne (by simp [hne, hea]) fun y h' tk hy ho hst hT hsz hk => ?_
    have hy' : y = u := by
      have e1 : its[i]? = some y := by simpa using hy
      rw [hu] at e1
      exact (Option.some.inj e1).symm
    subst hy'
    refine ⟨_, rfl, wpAny_letOwnedTupleGo_enum (s := { s with heap := h', toks := tk + 1 }) ho fun h'' he' sb => ?_⟩
    have hT2 := (sb.2 _ (Nat.ne_of_gt hel)).trans hT
    have nw : ObjOk X.prog X.w (upd H s.heap.objs.size (.tup [.int (i : Nat), x])) h'' s.heap.objs.size (.tup [.int (i : Nat), x]) :=
      ⟨by show 2 ≤ sizeLine; decide, [.int i tk, y], .cons ⟨_, rfl⟩ (.cons ru .nil), ⟨_, hT2, rfl, _, rfl⟩⟩
    have I1 : Inv X pins σ (upd H s.heap.objs.size (.tup [.int (i : Nat), x])) { s with heap := h'', toks := tk + 1 } :=
      I.turnedNew (ch := [e, it]) (fun b ob hb q => (sb.2 b (fun z => hb (by simp [z]))).trans (hk b ob (fun z => hb (by simp [z])) (fun z => hb (by simp [z])) q)) hf (Nat.le_refl _) nw
    refine ⟨.ref s.heap.objs.size, _, I1, rfl, ⟨_, x, rfl, I.hok.fresh (Nat.le_refl _), rfl, fun ys hy => by rw [I.tuple_inj hy hq]; exact hx⟩, ⟨⟨y, ?_⟩, hst.1.at fun o q => (sb.2 it (Ne.symm hne)).trans q, hne, hea, hai⟩, fun b hb => ?_⟩
    · rw [show ((i + 1 : Nat) : Int) = (i : Int) + 1 by omega]
      exact he'
    · have hb' : b < s.heap.objs.size := by
        rcases (show b = e ∨ b = it by simpa using hb) with z | z
        · exact z ▸ hel
        · exact z ▸ hil
      rw [upd_ne (Nat.ne_of_lt hb')]
      exact (hf b hb).1
  done := by
    intro X hP hw hK hc i pins s σ H E I hf st hg
    subst hP hw hK
    obtain ⟨⟨old, he⟩, hit, hne, hea, hai⟩ := st
    obtain ⟨xs, hq, hx⟩ := hg
    obtain ⟨its, rv, p, hz⟩ := I.tuple hq
    obtain ⟨f0, f1, f2, f3, f4, f5⟩ := hf it (by simp)
    have hl := rv.length
    unfold pyNext
    refine wpAny_bind (wpAny_attempt (wpAny_callSpecial?_slot (name := Str.ofString "__next__") ⟨_, he, rfl⟩ F.slot_enumerate_next (wpAny_call_entry F.slot_enumerate_next ⟨_, he, rfl⟩ F.entry_enumerate_next ?_ (F.args_enumerate_next_1 _))))
    show wpAny _ _ (field (.ref e) 2 >>= _) _ _ _
    refine wpAny_bind (wpAny_field he rfl (x := .ref it) rfl ?_)
    refine wpAny_bind (RZ.nextOf_tuple_end (I.ok.hd hc) hit p (by simp; omega) fun h' x he' hx' => ?_)
    obtain ⟨o, ho, hcl⟩ := hx'
    refine wpAny_bind (wpAny_isInstance (T := "StopIteration") (b := true) ⟨o, ho, hcl⟩ isSubtype_stop ?_)
    exact wpAny_pure ⟨rfl, I.turned (t' := s.toks) (fun b o hb q => he' b o hb q) f0 f1 f3 f4 f5⟩
  self := fun A i s Q E st h => let ⟨⟨_, he⟩, _⟩ := st; wpAny_pyIter_enum he h
def iEnumA (K : PySem.W.Frag) (ta : TA) : TI := fun σ H R => ta σ H fun vs H1 => ∃ a xs, vs = [.ref a] ∧ ((SqL K H1 a xs ∧ R (Ite K a) H1) ∨ (SqT K H1 a xs ∧ R (IteT K a) H1))
theorem pi_enumA {X : Cx} {e : Expr} {ta : TA} {p pos tpos : Pos} {elts : List Expr} {kk : Nat} (hg : Gl X "enumerate") (hm : X.mg "enumerate" = none) (ha : PA X [e] ta) (hs : starEach [e] X.env = [(false, eval e X.env)] := by rfl) :
    PI X (.Tuple elts kk tpos) (.Call (.Name "enumerate" p) [e] [] pos) (iEnumA X.K ta) := by
  refine ⟨fun pins s σ H R I h => ?_⟩
  refine Call_ (ld_blt I hg hm boot_enumerate (PyProof.Rows.callWith_type1 (thn (ha.run pos pins s σ H _ I h) fun us s1 ⟨vs, H1, I1, r1, q1⟩ => ?_) hs rfl))
  obtain ⟨a, xs, ex, q1⟩ := q1
  subst ex
  have fr : ∀ b, b ∈ [s1.heap.objs.size + 1, s1.heap.objs.size] → FpOk X pins H1 b := fun b hb => by
    have hle : s1.heap.objs.size ≤ b := by
      rcases (show b = s1.heap.objs.size + 1 ∨ b = s1.heap.objs.size by simpa using hb) with z | z
      · exact z ▸ Nat.le_add_right _ _
      · exact z ▸ Nat.le_refl _
    exact I1.fpOk hle (I1.hok.fresh hle)
  cases r1 with
  | cons r rr =>
    cases rr
    cases r
    rcases q1 with ⟨hq, q⟩ | ⟨hq, q⟩
    · obtain ⟨its, rv, p', hz⟩ := I1.list hq
      refine call_enumerate_list p'.isList fun h' he hit hsz hk => wpAny_pyIter_enum he ?_
      exact ⟨s1.heap.objs.size + 1, [s1.heap.objs.size + 1, s1.heap.objs.size], _, _, H1, rfl, I1.kept (t' := s1.toks) hk, turn_enum a (s1.heap.objs.size + 1) s1.heap.objs.size, ⟨⟨.none, he⟩, hit, Nat.succ_ne_self _⟩, fr, q⟩
    · obtain ⟨its, rv, p', hz⟩ := I1.tuple hq
      have hal : a < s1.heap.objs.size := let ⟨_, q, _⟩ := p'; Heap.lt_size q
      refine enumCallT p' fun h' he hit hk => wpAny_pyIter_enum he ?_
      exact ⟨s1.heap.objs.size + 1, [s1.heap.objs.size + 1, s1.heap.objs.size], _, _, H1, rfl, I1.kept (t' := s1.toks) hk, turn_enumT a (s1.heap.objs.size + 1) s1.heap.objs.size, ⟨⟨.none, he⟩, hit, Nat.succ_ne_self _, Nat.ne_of_gt (Nat.lt_succ_of_lt hal), Nat.ne_of_lt hal⟩, fr, q⟩
/-! lists of unlike lengths; a thing and itself -/
def rEqLen (K : PySem.W.Frag) : R2 := fun x y H Q => ∃ a b vs us, x = .ref a ∧ y = .ref b ∧ SqL K H a vs ∧ SqL K H b us ∧ vs.length ≠ us.length ∧ Q (.bl false) H
def rNeLen (K : PySem.W.Frag) : R2 := fun x y H Q => ∃ a b vs us, x = .ref a ∧ y = .ref b ∧ SqL K H a vs ∧ SqL K H b us ∧ vs.length ≠ us.length ∧ Q (.bl true) H
section
variable {X : Cx}
theorem op_eqLen (hu : X.A.units + 64 < cLine) : OpR X (compareOp .Eq) (rEqLen X.K) := by
  intro pins s σ H x y v u Q I rx ry h
  obtain ⟨a, b, vs, us, rfl, rfl, h1, h2, hl, q⟩ := h
  cases rx
  cases ry
  obtain ⟨its, r1, p1, _⟩ := I.list h1
  obtain ⟨its2, r2, p2, _⟩ := I.list h2
  have l1 := r1.length
  have l2 := r2.length
  have hs : (its.toArray.size != its2.toArray.size) = true := by
    simp
    omega
  exact SeqAt.eq_list_lengthsAt p1.isList p2.isList hs (by omega) ⟨.bl false, H, I, rfl, q⟩
theorem op_neLen (hu : X.A.units + 64 < cLine) : OpR X (compareOp .NotEq) (rNeLen X.K) := by
  intro pins s σ H x y v u Q I rx ry h
  obtain ⟨a, b, vs, us, rfl, rfl, h1, h2, hl, q⟩ := h
  cases rx
  cases ry
  obtain ⟨its, r1, p1, _⟩ := I.list h1
  obtain ⟨its2, r2, p2, _⟩ := I.list h2
  have l1 := r1.length
  have l2 := r2.length
  have hs : (its.toArray.size != its2.toArray.size) = true := by
    simp
    omega
  exact SeqAt.RcNeAt.lists_lengths p1.isList p2.isList hs (by omega) X.prog X.w X.xe _ ⟨.bl true, H, I, rfl, q⟩
def rEqA (K : PySem.W.Frag) : R2 := fun x y H Q => rEqD K x y H Q ∨ rEqV K x y H Q ∨ rEqLen K x y H Q
def rNeA (K : PySem.W.Frag) : R2 := fun x y H Q => rNeD K x y H Q ∨ rNeLen K x y H Q
theorem op_eqA (hu : X.A.units + 64 < cLine) : OpR X (compareOp .Eq) (rEqA X.K) := (op_eqD hu).or ((op_eqV hu).or (op_eqLen hu))
theorem op_neA (hu : X.A.units + 64 < cLine) : OpR X (compareOp .NotEq) (rNeA X.K) := (op_neD hu).or (op_neLen hu)
/-- a thing equals itself -/
def refl1 : V → Prop := fun v => flatB v = true ∨ ∃ a, v = .ref a
theorem eqV_refl (K : PySem.W.Frag) (H : Hp) {v : V} (h : refl1 v) : EqV K H 1 v v := by
  rcases h with h | ⟨a, rfl⟩
  · exact .inl ⟨rfl, h⟩
  · exact .inr (.inl ⟨a, rfl, rfl⟩)
theorem eqR_selfL {K : PySem.W.Frag} {H : Hp} {a : Addr} {vs : List V} (h : SqL K H a vs) (f : ∀ v ∈ vs, refl1 v) : EqR K H (EqV K H 1) (.ref a) (.ref a) := by
  refine .inl ⟨a, a, vs, vs, rfl, rfl, h, h, ?_⟩
  clear h
  induction vs with
  | nil => exact .nil
  | cons v vs ih => exact .cons (eqV_refl K H (f v List.mem_cons_self)) (ih fun u hu => f u (List.mem_cons_of_mem _ hu))
theorem eqR_selfD {K : PySem.W.Frag} {H : Hp} {a : Addr} (h : H a = some (.dK [])) : EqR K H (EqV K H 1) (.ref a) (.ref a) :=
  .inr ⟨a, a, [], [], rfl, rfl, h, h, rfl, fun p hp => absurd hp (by simp)⟩
end
end Sy
set_option Elab.async false
set_option linter.all false
set_option maxRecDepth 100000
set_option maxHeartbeats 4000000
namespace Sy
open PySem PySem.Spec PyProof.Rows L2

/-! what stands at a value -/
def GO.rd : GO → Option (List W)
  | .lst ws => some ws
  | _ => none
def GO.wr : GO → Option (List W)
  | .lst ws => some ws
  | _ => none
def rdw (G : GH) : W → Option (List W)
  | .loc n => G[n]?.bind GO.rd
  | .frl ws => some ws
  | _ => none
def wrw (G : GH) : W → Option (List W)
  | .loc n => G[n]?.bind GO.wr
  | _ => none
def rdl (t : T) (G : GH) : Option (List W) := match t with
  | .tmp ws => some ws
  | .val w => rdw G w
def wrl (t : T) (G : GH) : Option (List W) := match t with
  | .tmp ws => some ws
  | .val w => wrw G w
def rdt : T → Option (List W)
  | .val (.tup ws) => some ws
  | _ => none
section
variable {K : PySem.W.Frag} {ca : Nat → Addr} {ρ : List Addr} {G : GH} {H H0 : Hp} {v : V} {t : T} {ws : List W}
theorem rdw_of {w : W} (r : Rep K ca ρ G H) (q : RelW K ca ρ H v w) (h : rdw G w = some ws) : ∃ a vs, v = .ref a ∧ SqL K H a vs ∧ RelWs K ca ρ H vs ws := by
  cases w with
  | loc n =>
    cases q with
    | loc hn =>
      obtain ⟨o, e, ho⟩ := r.at hn
      have h : G[n]?.bind GO.rd = some ws := h
      rw [e] at h
      cases o with
      | lst us => cases h; obtain ⟨vs, e, q⟩ := ho; exact ⟨_, vs, rfl, .of e, q⟩
      | _ => cases h
  | frl us =>
    cases h
    obtain ⟨a, vs, e, hv, qs⟩ := relW_frl q
    exact ⟨a, vs, e, hv.sq, qs⟩
  | _ => cases h
theorem wrw_of {w : W} (r : Rep K ca ρ G H) (q : RelW K ca ρ H v w) (h : wrw G w = some ws) : ∃ a vs, v = .ref a ∧ H a = some (.lst vs) ∧ RelWs K ca ρ H vs ws := by
  cases w with
  | loc n =>
    cases q with
    | loc hn =>
      obtain ⟨o, e, ho⟩ := r.at hn
      have h : G[n]?.bind GO.wr = some ws := h
      rw [e] at h
      cases o with
      | lst us => cases h; obtain ⟨vs, e, q⟩ := ho; exact ⟨_, vs, rfl, e, q⟩
      | _ => cases h
  | _ => cases h
theorem rdl_of (r : Rep K ca ρ G H) (q : RelT K ca H0 ρ H v t) (h : rdl t G = some ws) : ∃ a vs, v = .ref a ∧ SqL K H a vs ∧ RelWs K ca ρ H vs ws := by
  cases t with
  | tmp us =>
    cases h
    obtain ⟨p, vs, e, _, _, hp, hv⟩ := q
    exact ⟨p, vs, e, .of hp, hv⟩
  | val w => exact rdw_of r q h
theorem wrl_of (r : Rep K ca ρ G H) (q : RelT K ca H0 ρ H v t) (h : wrl t G = some ws) : ∃ a vs, v = .ref a ∧ H a = some (.lst vs) ∧ RelWs K ca ρ H vs ws := by
  cases t with
  | tmp us =>
    cases h
    obtain ⟨p, vs, e, _, _, hp, hv⟩ := q
    exact ⟨p, vs, e, hp, hv⟩
  | val w => exact wrw_of r q h
theorem rdt_of (q : RelT K ca H0 ρ H v t) (h : rdt t = some ws) : ∃ a vs, v = .ref a ∧ SqT K H a vs ∧ RelWs K ca ρ H vs ws := by
  cases t with
  | tmp us => cases h
  | val w =>
    cases w with
    | tup us => cases h; exact relW_tup q
    | _ => cases h
end

/-! data -/
def mapO {α β : Type} (f : α → Option β) : List α → Option (List β)
  | [] => some []
  | x :: xs => (f x).bind fun y => (mapO f xs).bind fun ys => some (y :: ys)
def toD : Nat → GH → W → Option PyData
  | 0, _, _ => none
  | n + 1, G, w => match w with
    | .non => some .none
    | .bl b => some (.bool b)
    | .int i => some (.int i)
    | .str x => if x.cps.all (· < 0x110000) then some (.str x) else none
    | .tup ws => (mapO (toD n G) ws).map .tuple
    | .loc k => (rdw G (.loc k)).bind fun ws => (mapO (toD n G) ws).map .list
    | .frl ws => (mapO (toD n G) ws).map .list
    | .ty _ => none
    | .cls _ => none
    | .exn _ _ => none
def toDT (G : GH) : T → Option PyData
  | .val w => toD 9 G w
  | .tmp ws => (mapO (toD 8 G) ws).map .list

theorem mapO_dp {K : PySem.W.Frag} {ca : Nat → Addr} {ρ : List Addr} {G : GH} {H : Hp} {n : Nat} (f : ∀ (w : W) (v : V) (d : PyData), RelW K ca ρ H v w → toD n G w = some d → Dp K H v d ∧ d.canLay0 = true ∧ d.depth ≤ n) :
    ∀ {ws : List W} {vs : List V} {ds : List PyData}, RelWs K ca ρ H vs ws → mapO (toD n G) ws = some ds → DpAll K H vs ds ∧ PyData.canLayAll0 ds = true ∧ PyData.depthAll ds ≤ n
  | [], _, _, .nil, h => by cases h; exact ⟨.nil, rfl, Nat.zero_le _⟩
  | w :: ws, _, ds, .cons q t, h => by
    unfold mapO at h
    cases e1 : toD n G w with
    | none => rw [e1] at h; cases h
    | some d =>
      cases e2 : mapO (toD n G) ws with
      | none => rw [e1, e2] at h; cases h
      | some ds' =>
        rw [e1, e2] at h; cases h
        obtain ⟨a1, a2, a3⟩ := f w _ d q e1
        obtain ⟨b1, b2, b3⟩ := mapO_dp f t e2
        exact ⟨.cons a1 b1, by unfold PyData.canLayAll0; rw [a2, b2]; rfl, by unfold PyData.depthAll; omega⟩
theorem toD_dp {K : PySem.W.Frag} {ca : Nat → Addr} {ρ : List Addr} {G : GH} {H : Hp} (r : Rep K ca ρ G H) : ∀ (n : Nat) (w : W) (v : V) (d : PyData), RelW K ca ρ H v w → toD n G w = some d → Dp K H v d ∧ d.canLay0 = true ∧ d.depth ≤ n
  | 0, _, _, _, _, h => by cases h
  | n + 1, w, v, d, q, h => by
    cases w with
    | non => cases h; cases q; exact ⟨.non, rfl, Nat.zero_le _⟩
    | bl b => cases h; cases q; exact ⟨.bl b, rfl, Nat.zero_le _⟩
    | int b => cases h; cases q; exact ⟨.int b, rfl, Nat.zero_le _⟩
    | str x =>
      have h' : (if x.cps.all (· < 0x110000) then some (PyData.str x) else none) = some d := h
      by_cases z : x.cps.all (· < 0x110000) = true
      · rw [if_pos z] at h'
        cases h'; cases q; exact ⟨.str x, by unfold PyData.canLay0; exact z, Nat.zero_le _⟩
      · rw [if_neg z] at h'; cases h'
    | tup ws =>
      have h' : (mapO (toD n G) ws).map PyData.tuple = some d := h
      cases e : mapO (toD n G) ws with
      | none => rw [e] at h'; cases h'
      | some ds =>
        rw [e] at h'; cases h'
        obtain ⟨a, vs, rfl, hs, qs⟩ := relW_tup q
        obtain ⟨h1, h2, h3⟩ := mapO_dp (toD_dp r n) qs e
        exact ⟨.tup hs h1, by unfold PyData.canLay0; exact h2, by unfold PyData.depth; omega⟩
    | loc k =>
      have h' : ((rdw G (.loc k)).bind fun ws => (mapO (toD n G) ws).map PyData.list) = some d := h
      cases e0 : rdw G (.loc k) with
      | none => rw [e0] at h'; cases h'
      | some ws =>
        rw [e0] at h'
        have h2 : (mapO (toD n G) ws).map PyData.list = some d := h'
        cases e : mapO (toD n G) ws with
        | none => rw [e] at h2; cases h2
        | some ds =>
          rw [e] at h2; cases h2
          obtain ⟨a, vs, rfl, hs, qs⟩ := rdw_of r q e0
          obtain ⟨h1, h2, h3⟩ := mapO_dp (toD_dp r n) qs e
          exact ⟨.lst hs h1, by unfold PyData.canLay0; exact h2, by unfold PyData.depth; omega⟩
    | frl ws =>
      have h' : (mapO (toD n G) ws).map PyData.list = some d := h
      cases e : mapO (toD n G) ws with
      | none => rw [e] at h'; cases h'
      | some ds =>
        rw [e] at h'; cases h'
        obtain ⟨a, vs, rfl, hs, qs⟩ := relW_frl q
        obtain ⟨h1, h2, h3⟩ := mapO_dp (toD_dp r n) qs e
        exact ⟨.lst hs.sq h1, by unfold PyData.canLay0; exact h2, by unfold PyData.depth; omega⟩
    | ty b => cases h
    | cls b => cases h
    | exn b a => cases h
theorem toDT_dp {K : PySem.W.Frag} {ca : Nat → Addr} {ρ : List Addr} {G : GH} {H H0 : Hp} (r : Rep K ca ρ G H) {t : T} {v : V} {d : PyData} (q : RelT K ca H0 ρ H v t) (h : toDT G t = some d) : Dp K H v d ∧ SeqAt.shaped d = true := by
  cases t with
  | val w =>
    obtain ⟨h1, h2, h3⟩ := toD_dp r 9 w v d q h
    exact ⟨h1, by unfold SeqAt.shaped; rw [h2]; exact decide_eq_true (by omega)⟩
  | tmp ws =>
    obtain ⟨p, vs, rfl, _, _, hp, qs⟩ := q
    have h' : (mapO (toD 8 G) ws).map PyData.list = some d := h
    cases e : mapO (toD 8 G) ws with
    | none => rw [e] at h'; cases h'
    | some ds =>
      rw [e] at h'; cases h'
      obtain ⟨h1, h2, h3⟩ := mapO_dp (toD_dp r 8) qs e
      refine ⟨.lst (.of hp) h1, ?_⟩
      unfold SeqAt.shaped
      have z : (PyData.list ds).canLay0 = true := by unfold PyData.canLay0; exact h2
      rw [z]
      refine decide_eq_true ?_
      unfold PyData.depth
      omega

/-! operations by values -/
def fI2 (c : Int → Int → Bool) (g : Int → Int → Int) : T → T → GH → R T
  | .val (.int i), .val (.int j), G => if c i j then .ok (.val (.int (g i j))) G else .bad
  | _, _, _ => .bad
def fC2 (g : Int → Int → Bool) : T → T → GH → R T
  | .val (.int i), .val (.int j), G => .ok (.val (.bl (g i j))) G
  | _, _, _ => .bad
def lineN : Nat := 16777216
def fAdd : T → T → GH → R T
  | .val (.int i), .val (.int j), G => .ok (.val (.int (i + j))) G
  | .val (.str x), .val (.str y), G => if x.length + y.length ≤ 16777216 then .ok (.val (.str (x ++ y))) G else .bad
  | .val (.tup xs), .val (.tup ys), G => if xs.length + ys.length ≤ 16777216 then .ok (.val (.tup (xs ++ ys))) G else .bad
  | x, y, G => match wrl x G, wrl y G with
    | some xs, some ys => if xs.length + ys.length ≤ 16777216 then .ok (.tmp (xs ++ ys)) G else .bad
    | _, _ => .bad
def mulOk (i j : Int) : Bool := decide (Builtin.Int.intBits i + Builtin.Int.intBits j ≤ 134217728)
def repW (ws : List W) (k : Nat) : List W := (List.replicate k ws).flatten
def repS (x : Str) (n : Int) : Str := if n < 1 then Str.empty else if (n == 1 || x.length == 0) = true then x else ⟨(List.replicate n.toNat x.cps).foldl (· ++ ·) #[]⟩
def repOk (x : Str) (k : Int) : Bool := decide (-(2 ^ 63) ≤ k) && decide (k < 2 ^ 63) && decide (x.length * k.toNat ≤ 16777216) && decide ((repS x k).length ≤ 16777216)
def fMul : T → T → GH → R T
  | .val (.int i), .val (.int j), G => if mulOk i j then .ok (.val (.int (i * j))) G else .bad
  | .val (.tup xs), .val (.int k), G => if k = 1 then .ok (.val (.tup xs)) G else if !xs.isEmpty && decide (2 ≤ k) && decide (k ≤ 1000) && decide (xs.length ≤ 1000) then .ok (.val (.tup (repW xs k.toNat))) G else .bad
  | .val (.str x), .val (.int k), G => if repOk x k then .ok (.val (.str (repS x k))) G else .bad
  | x, .val (.int k), G => match wrl x G with
    | some xs => if decide (-(2 ^ 63) ≤ k) && decide (k < 2 ^ 63) && decide (xs.length * k.toNat ≤ 16777216) then .ok (.tmp (repW xs k.toNat)) G else .bad
    | _ => .bad
  | _, _, _ => .bad
def fSub := fI2 (fun _ _ => true) (fun i j => i - j)
def fFdiv := fI2 (fun _ j => decide (0 < j) && decide (j.natAbs.log2 < 9000)) (fun i j => i / j)
def fMod := fI2 (fun _ j => decide (0 < j)) (fun i j => i % j)
def fShl := fI2 (fun i j => decide (0 ≤ j) && decide ((Builtin.Int.intBits i : Int) + j ≤ 2 ^ 27)) (fun i j => i * 2 ^ j.toNat)
def fShr := fI2 (fun _ j => decide (0 ≤ j)) (fun i j => i / 2 ^ j.toNat)
def fAnd := fI2 (fun _ _ => true) Builtin.bitAnd
def fOr := fI2 (fun _ _ => true) Builtin.bitOr
def fXor := fI2 (fun _ _ => true) Builtin.bitXor
def fPow := fI2 (fun i j => decide (0 ≤ j) && decide (j ≤ 1000000) && decide (i.natAbs < 2 ^ 64)) (fun i j => i ^ j.toNat)
def fLt := fC2 (fun i j => decide (i < j))
def fLe := fC2 (fun i j => decide (i ≤ j))
def fGt := fC2 (fun i j => decide (j < i))
def fGe := fC2 (fun i j => decide (j ≤ i))
def reflW : W → Bool
  | .non => true
  | .bl _ => true
  | .int _ => true
  | .str _ => true
  | .loc _ => true
  | .tup _ => true
  | .frl _ => true
  | _ => false
def locT : T → Option Nat
  | .val (.loc n) => some n
  | _ => none
def isD0 (n : Nat) (G : GH) : Bool := match G[n]? with
  | some (.dK []) => true
  | _ => false
/-- equal, or not, by what is plain to see -/
def eqSeen (x y : T) (G : GH) : Option Bool := match rdl x G, rdl y G with
  | some ws, some us => if ws.length ≠ us.length then some false else if (locT x).isSome ∧ locT x = locT y ∧ ws.all reflW = true then some true else none
  | _, _ => match locT x, locT y with
    | some n, some m => if n = m ∧ isD0 n G = true then some true else none
    | _, _ => none
def fEq (x y : T) (G : GH) : R T := match toDT G x, toDT G y with
  | some d, some e => .ok (.val (.bl (PyData.eqv d e))) G
  | _, _ => match eqSeen x y G with
    | some b => .ok (.val (.bl b)) G
    | none => .bad
def fNe (x y : T) (G : GH) : R T := match toDT G x, toDT G y with
  | some d, some e => .ok (.val (.bl (!PyData.eqv d e))) G
  | _, _ => match eqSeen x y G with
    | some false => .ok (.val (.bl true)) G
    | _ => .bad
def isNonW : W → Bool
  | .non => true
  | _ => false
def fIs : T → T → GH → R T
  | .val x, .val .non, G => .ok (.val (.bl (isNonW x))) G
  | .val (.bl a), .val (.bl b), G => .ok (.val (.bl (decide (a = b)))) G
  | _, _, _ => .bad
def fIsNot : T → T → GH → R T
  | .val x, .val .non, G => .ok (.val (.bl (!isNonW x))) G
  | .val (.bl a), .val (.bl b), G => .ok (.val (.bl (!decide (a = b)))) G
  | _, _, _ => .bad
section
variable {X : Cx} {ca : Nat → Addr}
theorem says_I {C : Int → Int → Prop} {c : Int → Int → Bool} {g : Int → Int → Int} (h : ∀ i j, c i j = true → C i j) : Says2 X ca (rI C fun i j => .int (g i j)) (fI2 c g) := by
  intro Wx σ ρ G H H0 x y s t Q r qx qy hp
  unfold fI2 at hp
  split at hp
  · cases qx; cases qy
    split at hp
    · rename_i z
      exact ⟨_, _, rfl, rfl, h _ _ z, hp ρ H .refl r _ (.int _)⟩
    · exact hp.elim
  · exact hp.elim
theorem says_I0 {g : Int → Int → Int} : Says2 X ca (rI0 fun i j => .int (g i j)) (fI2 (fun _ _ => true) g) := by
  intro Wx σ ρ G H H0 x y s t Q r qx qy hp
  unfold fI2 at hp
  split at hp
  · cases qx; cases qy
    exact ⟨_, _, rfl, rfl, hp ρ H .refl r _ (.int _)⟩
  · exact hp.elim
theorem says_C {g : Int → Int → Bool} : Says2 X ca (rI0 fun i j => .bl (g i j)) (fC2 g) := by
  intro Wx σ ρ G H H0 x y s t Q r qx qy hp
  unfold fC2 at hp
  split at hp
  · cases qx; cases qy
    exact ⟨_, _, rfl, rfl, hp ρ H .refl r _ (.bl _)⟩
  · exact hp.elim
theorem says_sub : Says2 X ca (rI0 fun i j => .int (i - j)) fSub := says_I0
theorem says_fdiv : Says2 X ca (rI CDivW fun i j => .int (i / j)) fFdiv := says_I fun i j h => by
  rw [Bool.and_eq_true] at h
  exact ⟨of_decide_eq_true h.1, of_decide_eq_true h.2⟩
theorem says_mod : Says2 X ca (rI (fun _ j => 0 < j) fun i j => .int (i % j)) fMod := says_I fun i j h => of_decide_eq_true h
theorem says_shl : Says2 X ca (rI CShl fun i j => .int (i * 2 ^ j.toNat)) fShl := says_I fun i j h => by
  rw [Bool.and_eq_true] at h
  exact ⟨of_decide_eq_true h.1, of_decide_eq_true h.2⟩
theorem says_shr : Says2 X ca (rI (fun _ j => 0 ≤ j) fun i j => .int (i / 2 ^ j.toNat)) fShr := says_I fun i j h => of_decide_eq_true h
theorem says_band : Says2 X ca (rI0 fun i j => .int (Builtin.bitAnd i j)) fAnd := says_I0
theorem says_bor : Says2 X ca (rI0 fun i j => .int (Builtin.bitOr i j)) fOr := says_I0
theorem says_bxor : Says2 X ca (rI0 fun i j => .int (Builtin.bitXor i j)) fXor := says_I0
theorem says_pow : Says2 X ca (rI CPow fun i j => .int (i ^ j.toNat)) fPow := says_I fun i j h => by
  rw [Bool.and_eq_true, Bool.and_eq_true] at h
  exact ⟨of_decide_eq_true h.1.1, of_decide_eq_true h.1.2, of_decide_eq_true h.2⟩
theorem refl1_of {K : PySem.W.Frag} {ρ : List Addr} {H : Hp} {v : V} {w : W} (q : RelW K ca ρ H v w) (h : reflW w = true) : refl1 v := by
  cases q with
  | non => exact .inl rfl
  | bl b => exact .inl rfl
  | int i => exact .inl rfl
  | str x => exact .inl rfl
  | ty n => cases h
  | cls c => cases h
  | exn c a => cases h
  | loc hn => exact .inr ⟨_, rfl⟩
  | tup hs _ _ => exact .inr ⟨_, rfl⟩
  | frl hs _ _ => exact .inr ⟨_, rfl⟩
theorem refls_of {K : PySem.W.Frag} {ρ : List Addr} {H : Hp} : ∀ {vs : List V} {ws : List W}, RelWs K ca ρ H vs ws → ws.all reflW = true → ∀ v ∈ vs, refl1 v
  | _, _, .nil, _ => fun v hv => absurd hv (by simp)
  | _, _, .cons q t, h => fun v hv => by
    rw [List.all_cons, Bool.and_eq_true] at h
    rcases List.mem_cons.mp hv with z | z
    · rw [z]
      exact refl1_of q h.1
    · exact refls_of t h.2 v z
theorem locT_some {t : T} {n : Nat} (h : locT t = some n) : t = .val (.loc n) := by
  unfold locT at h
  split at h
  · cases h
    rfl
  · cases h
theorem says_eq : Says2 X ca (rEqA X.K) fEq := by
  intro Wx σ ρ G H H0 x y s t Q r qx qy hp
  unfold fEq at hp
  split at hp
  · rename_i d e e1 e2
    obtain ⟨a1, a2⟩ := toDT_dp r qx e1
    obtain ⟨b1, b2⟩ := toDT_dp r qy e2
    exact .inl ⟨d, e, a1, b1, a2, b2, hp ρ H .refl r _ (.bl _)⟩
  · split at hp
    · rename_i bb hs
      have q := hp ρ H .refl r _ (.bl _)
      unfold eqSeen at hs
      split at hs
      · rename_i ws us e1 e2
        obtain ⟨a, vs, rfl, ha, qa⟩ := rdl_of r qx e1
        obtain ⟨b, vs2, rfl, hb, qb⟩ := rdl_of r qy e2
        have l1 := qa.length
        have l2 := qb.length
        split at hs
        · rename_i hl
          cases hs
          exact .inr (.inr ⟨a, b, vs, vs2, rfl, rfl, ha, hb, by omega, q⟩)
        · split at hs
          · rename_i hl h2
            cases hs
            obtain ⟨h3, h4, h5⟩ := h2
            obtain ⟨n, hn⟩ := Option.isSome_iff_exists.mp h3
            rw [hn] at h4
            have es := locT_some hn
            have et := locT_some h4.symm
            subst es et
            have hab : a = b := by
              cases qx with
              | loc h6 =>
                cases qy with
                | loc h7 =>
                  rw [h6] at h7
                  exact Option.some.inj h7
            subst hab
            exact .inr (.inl ⟨1, by decide, eqR_selfL ha (refls_of qa h5), q⟩)
          · cases hs
      · split at hs
        · rename_i n m e1 e2
          split at hs
          · rename_i h2
            cases hs
            obtain ⟨rfl, h3⟩ := h2
            have es := locT_some e1
            have et := locT_some e2
            subst es et
            cases qx with
            | loc h6 =>
              cases qy with
              | loc h7 =>
                rw [h6] at h7
                cases h7
                unfold isD0 at h3
                split at h3
                · rename_i e5
                  obtain ⟨o, e4, ho⟩ := r.at h6
                  rw [e5] at e4
                  cases e4
                  obtain ⟨kvs, e6, p⟩ := ho
                  cases p
                  exact .inr (.inl ⟨1, by decide, eqR_selfD e6, q⟩)
                · cases h3
          · cases hs
        · cases hs
    · exact hp.elim
theorem says_ne : Says2 X ca (rNeA X.K) fNe := by
  intro Wx σ ρ G H H0 x y s t Q r qx qy hp
  unfold fNe at hp
  split at hp
  · rename_i d e e1 e2
    obtain ⟨a1, a2⟩ := toDT_dp r qx e1
    obtain ⟨b1, b2⟩ := toDT_dp r qy e2
    exact .inl ⟨d, e, a1, b1, a2, b2, hp ρ H .refl r _ (.bl _)⟩
  · split at hp
    · rename_i hs
      have q := hp ρ H .refl r _ (.bl _)
      unfold eqSeen at hs
      split at hs
      · rename_i ws us e1 e2
        obtain ⟨a, vs, rfl, ha, qa⟩ := rdl_of r qx e1
        obtain ⟨b, vs2, rfl, hb, qb⟩ := rdl_of r qy e2
        have l1 := qa.length
        have l2 := qb.length
        split at hs
        · rename_i hl
          exact .inr ⟨a, b, vs, vs2, rfl, rfl, ha, hb, by omega, q⟩
        · split at hs <;> cases hs
      · split at hs
        · split at hs <;> cases hs
        · cases hs
    · exact hp.elim
def rAddA (K : PySem.W.Frag) : R2 := fun x y H Q => rI0 (fun i j => .int (i + j)) x y H Q ∨ (∃ i j, x = .str i ∧ y = .str j ∧ i.length + j.length ≤ sizeLine ∧ Q (.str (i ++ j)) H) ∨ rCat x y H Q ∨ rCatA K x y H Q
theorem op_addA : OpR X (binaryOp .Add) (rAddA X.K) := op_add.or (op_add_str.or (op_cat.or op_catA))
theorem fresh_tmp {K : PySem.W.Frag} {ρ : List Addr} {G : GH} {H : Hp} {p : Addr} {vs : List V} {ws : List W} (r : Rep K ca ρ G H) (hp : H p = none) (q : RelWs K ca ρ H vs ws) : RelT K ca H ρ (upd H p (.lst vs)) (.ref p) (.tmp ws) :=
  ⟨p, vs, rfl, r.fresh hp, hp, upd_same, relWs_ext q r (.laid hp)⟩
theorem relWs_app {K : PySem.W.Frag} {ρ : List Addr} {H : Hp} : ∀ {vs us : List V} {ws zs : List W}, RelWs K ca ρ H vs ws → RelWs K ca ρ H us zs → RelWs K ca ρ H (vs ++ us) (ws ++ zs)
  | _, _, _, _, .nil, h => h
  | _, _, _, _, .cons q t, h => .cons q (relWs_app t h)
theorem relWs_rep {K : PySem.W.Frag} {ρ : List Addr} {H : Hp} {vs : List V} {ws : List W} (h : RelWs K ca ρ H vs ws) : ∀ k : Nat, RelWs K ca ρ H (List.replicate k vs).flatten (repW ws k)
  | 0 => .nil
  | k + 1 => by
    unfold repW
    rw [List.replicate_succ, List.replicate_succ, List.flatten_cons, List.flatten_cons]
    exact relWs_app h (relWs_rep h k)
theorem says_add : Says2 X ca (rAddA X.K) fAdd := by
  intro Wx σ ρ G H H0 x y s t Q r qx qy hp
  unfold fAdd at hp
  split at hp
  · cases qx; cases qy
    exact .inl ⟨_, _, rfl, rfl, hp ρ H .refl r _ (.int _)⟩
  · cases qx; cases qy
    split at hp
    · rename_i z
      exact .inr (.inl ⟨_, _, rfl, rfl, by rw [sizeLine_eq]; exact z, hp ρ H .refl r _ (.str _)⟩)
    · exact hp.elim
  · rename_i G2 xs ys
    split at hp
    · rename_i z2
      have qx' := qx
      have qy' := qy
      obtain ⟨a, vs, rfl, hs, q1⟩ := relW_tup qx
      obtain ⟨b, us, rfl, hs', q2⟩ := relW_tup qy
      have l1 := q1.length
      have l2 := q2.length
      refine .inr (.inr (.inr ⟨a, b, vs, us, rfl, rfl, hs, hs', by rw [sizeLine_eq]; omega, fun e => ?_, fun _ e => ?_, fun _ _ p hn => hp ρ _ (.laid hn) (r.laid hn) _ (RelW.tup' (.of upd_same) (relWs_app (relWs_ext q1 r (.laid hn)) (relWs_ext q2 r (.laid hn))))⟩))
      · subst e
        have : xs = [] := by cases q1; rfl
        subst this
        exact hp ρ H .refl r _ qy'
      · subst e
        have : ys = [] := by cases q2; rfl
        subst this
        rw [List.append_nil] at hp
        exact hp ρ H .refl r _ qx'
    · exact hp.elim
  · cases e1 : wrl s G with
    | none => rw [e1] at hp; exact hp.elim
    | some xs =>
      cases e2 : wrl t G with
      | none => rw [e1, e2] at hp; exact hp.elim
      | some ys =>
        rw [e1, e2] at hp
        dsimp only at hp
        split at hp
        · rename_i z
          obtain ⟨a, vs, rfl, ha, q1⟩ := wrl_of r qx e1
          obtain ⟨b, us, rfl, hb, q2⟩ := wrl_of r qy e2
          have l1 := q1.length
          have l2 := q2.length
          exact .inr (.inr (.inl ⟨a, b, vs, us, rfl, rfl, ha, hb, by rw [sizeLine_eq]; omega, fun p hn => hp ρ _ (.laid hn) (r.laid hn) _ (fresh_tmp r hn (relWs_app q1 q2))⟩))
        · exact hp.elim
def rMulS : R2 := fun x y H Q => ∃ a n, x = .str a ∧ y = .int n ∧ -(2 ^ 63) ≤ n ∧ n < 2 ^ 63 ∧ a.length * n.toNat ≤ 16777216 ∧ (repS a n).length ≤ 16777216 ∧ Q (.str (repS a n)) H
def rMulA (K : PySem.W.Frag) : R2 := fun x y H Q => rI CMulX (fun i j => .int (i * j)) x y H Q ∨ rRep x y H Q ∨ rRepT K x y H Q ∨ rMulS x y H Q ∨ rOneT K x y H Q
theorem op_mulS : OpR X (binaryOp .Mult) rMulS := by
  intro pins s σ H x y v u Q I rx ry h
  obtain ⟨a, n, rfl, rfl, h1, h2, h3, h4, q⟩ := h
  obtain ⟨t, rfl⟩ := rx
  obtain ⟨t', rfl⟩ := ry
  have hsl := sizeLine_eq
  refine PySem.P.mul_str (by rw [decide_eq_false (by omega), decide_eq_false (by omega)]; rfl) (fun hn _ => ?_) (fun hn _ => ?_) ?_
  · have hn' : 0 < n := by omega
    have : (a.length : Int) * n ≤ 2 ^ 63 - 1 := by
      have e : (a.length : Int) * n = ((a.length * n.toNat : Nat) : Int) := by
        rw [Int.natCast_mul, Int.toNat_of_nonneg (by omega)]
      rw [e]; omega
    have := Int.le_ediv_of_mul_le hn' this
    omega
  · unfold Builtin.Str.tooLong
    exact decide_eq_false (by omega)
  · unfold repS at h4 q
    by_cases c1 : n < 1
    · rw [if_pos c1] at h4 q ⊢
      exact ⟨by rw [hsl]; exact h4, .str Str.empty, H, I.tok _, ⟨_, rfl⟩, q⟩
    · rw [if_neg c1] at h4 q ⊢
      by_cases c2 : (n == 1 || a.length == 0) = true
      · rw [if_pos c2] at h4 q ⊢
        exact ⟨.str a, H, I, ⟨_, rfl⟩, q⟩
      · rw [if_neg c2] at h4 q ⊢
        exact ⟨by rw [hsl]; exact h4, .str _, H, I.tok _, ⟨_, rfl⟩, q⟩
theorem op_mulA : OpR X (binaryOp .Mult) (rMulA X.K) := op_mulX.or (op_rep.or (op_repT.or (op_mulS.or op_oneT)))
theorem says_mul : Says2 X ca (rMulA X.K) fMul := by
  intro Wx σ ρ G H H0 x y s t Q r qx qy hp
  unfold fMul at hp
  split at hp
  · cases qx; cases qy
    split at hp
    · rename_i z
      refine .inl ⟨_, _, rfl, rfl, ?_, hp ρ H .refl r _ (.int _)⟩
      have z' := of_decide_eq_true z
      unfold CMulX
      omega
    · exact hp.elim
  · split at hp
    · rename_i z
      subst z
      obtain ⟨a, vs, rfl, hs, q1⟩ := relW_tup qx
      cases qy
      exact .inr (.inr (.inr (.inr ⟨a, vs, rfl, rfl, hs, hp ρ H .refl r _ (RelW.tup' hs q1)⟩)))
    split at hp
    · rename_i z
      rw [Bool.and_eq_true, Bool.and_eq_true, Bool.and_eq_true] at z
      obtain ⟨a, vs, rfl, hs, q1⟩ := relW_tup qx
      cases qy
      have l1 := q1.length
      have n1 : vs ≠ [] := fun e => by subst e; cases q1; simp at z
      refine .inr (.inr (.inl ⟨a, _, vs, rfl, rfl, hs, n1, of_decide_eq_true z.1.1.2, of_decide_eq_true z.1.2, by rw [l1]; exact of_decide_eq_true z.2, fun p hn => hp ρ _ (.laid hn) (r.laid hn) _ (RelW.tup' (.of upd_same) (relWs_rep (relWs_ext q1 r (.laid hn)) _))⟩))
    · exact hp.elim
  · cases qx; cases qy
    split at hp
    · rename_i z
      unfold repOk at z
      rw [Bool.and_eq_true, Bool.and_eq_true, Bool.and_eq_true] at z
      exact .inr (.inr (.inr (.inl ⟨_, _, rfl, rfl, of_decide_eq_true z.1.1.1, of_decide_eq_true z.1.1.2, of_decide_eq_true z.1.2, of_decide_eq_true z.2, hp ρ H .refl r _ (.str _)⟩)))
    · exact hp.elim
  · cases e1 : wrl s G with
    | none => rw [e1] at hp; exact hp.elim
    | some xs =>
      rw [e1] at hp
      dsimp only at hp
      split at hp
      · rename_i z
        rw [Bool.and_eq_true, Bool.and_eq_true] at z
        obtain ⟨a, vs, rfl, ha, q1⟩ := wrl_of r qx e1
        cases qy
        have l1 := q1.length
        refine .inr (.inl ⟨a, _, vs, rfl, rfl, ha, of_decide_eq_true z.1.1, of_decide_eq_true z.1.2, by rw [sizeLine_eq, l1]; exact of_decide_eq_true z.2, fun p hn => hp ρ _ (.laid hn) (r.laid hn) _ (fresh_tmp r hn (relWs_rep q1 _))⟩)
      · exact hp.elim
  · exact hp.elim
end
end Sy
set_option Elab.async false
set_option linter.all false
set_option maxRecDepth 100000
set_option maxHeartbeats 4000000
namespace Sy
open PySem PySem.Spec PyProof.Rows L2

/-! statements by computations -/
def R.toS {α : Type} (r : R α) (τ : Sl) (k : α → GH → RS) : RS := match r with
  | .ok a G => k a G
  | .ex c fs G => .ex c fs τ G
  | .bad => .bad
@[simp] theorem R.toS_ok {α : Type} (a : α) (G : GH) (τ : Sl) (k : α → GH → RS) : (R.ok a G).toS τ k = k a G := (rfl)
@[simp] theorem R.toS_ex {α : Type} (c : Nat) (fs) (G : GH) (τ : Sl) (k : α → GH → RS) : (R.ex c fs G : R α).toS τ k = .ex c fs τ G := (rfl)
@[simp] theorem R.toS_bad {α : Type} (τ : Sl) (k : α → GH → RS) : (R.bad : R α).toS τ k = .bad := (rfl)
def RS.andThen (r : RS) (k : MS) : RS := match r with
  | .nx τ G => k τ G
  | r => r
@[simp] theorem RS.then_nx (τ : Sl) (G : GH) (k : MS) : (RS.nx τ G).andThen k = k τ G := (rfl)
@[simp] theorem RS.then_rt (w : W) (G : GH) (k : MS) : (RS.rt w G).andThen k = .rt w G := (rfl)
@[simp] theorem RS.then_bk (τ : Sl) (G : GH) (k : MS) : (RS.bk τ G).andThen k = .bk τ G := (rfl)
@[simp] theorem RS.then_ct (τ : Sl) (G : GH) (k : MS) : (RS.ct τ G).andThen k = .ct τ G := (rfl)
@[simp] theorem RS.then_ex (c fs) (τ : Sl) (G : GH) (k : MS) : (RS.ex c fs τ G).andThen k = .ex c fs τ G := (rfl)
@[simp] theorem RS.then_bad (k : MS) : RS.bad.andThen k = .bad := (rfl)
def sNext : MS := fun τ G => .nx τ G
def sSeq (a b : MS) : MS := fun τ G => (a τ G).andThen b
def sDrop (m : M T) : MS := fun τ G => (m τ G).toS τ fun _ G1 => .nx τ G1
def sRet (m : M T) : MS := fun τ G => (mF m τ G).toS τ fun w G1 => .rt w G1
def sRetN : MS := fun τ G => .rt .non G
def sBrk : MS := fun τ G => .bk τ G
def sCt : MS := fun τ G => .ct τ G
def sIf (c : M Bool) (a b : MS) : MS := fun τ G => (c τ G).toS τ fun x G1 => if x then a τ G1 else b τ G1
def sSet (i : Nat) (m : M T) : MS := fun τ G => (mF m τ G).toS τ fun w G1 => .nx (τ.set i (some w)) G1
def sAug (i : Nat) (f : T → T → GH → R T) (m : M T) : MS := fun τ G => (mVar i τ G).toS τ fun x G0 => (m τ G0).toS τ fun y G1 => ((f x y G1).bind force).toS τ fun w G2 => .nx (τ.set i (some w)) G2

section
variable {X : Cx} {ca : Nat → Addr} {Wx : WX} {D : Ends} {σ : SSt} {H : Hp} {ρ : List Addr} {G : GH} {τ : Sl}
theorem PostS.of {α : Type} {r : R α} {k : α → GH → RS} (s : RelS X.K ca ρ H σ τ) (r0 : Rep X.K ca ρ G H) (h : PostS X.K ca Wx D ρ H (r.toS τ k)) : Post X.K ca Wx σ ρ H (fun a G1 ρ1 H1 => PostS X.K ca Wx D ρ1 H1 (k a G1)) r := by
  cases r with
  | ok a G1 => exact fun ρ1 H1 x r1 => PostS.later h x
  | ex c fs G1 => exact fun ρ1 H1 d x r1 e => h ρ1 H1 d σ x r1 (s.ext r0 x) e
  | bad => exact h
theorem tE.seqS {m : M T} {k : T → GH → RS} {Q : VK} (r : Rep X.K ca ρ G H) (s : RelS X.K ca ρ H σ τ) (h : PostS X.K ca Wx D ρ H ((m τ G).toS τ k))
    (hk : ∀ t G1 ρ1 H1 v, Ext ρ H ρ1 H1 → Rep X.K ca ρ1 G1 H1 → RelS X.K ca ρ1 H1 σ τ → RelT X.K ca H ρ1 H1 v t → PostS X.K ca Wx D ρ1 H1 (k t G1) → Q v H1) : tE X.K ca Wx m σ H Q :=
  ⟨ρ, G, τ, r, s, (PostS.of s r h).imp fun t G1 ρ1 H1 x r1 q v rv => hk t G1 ρ1 H1 v x r1 (s.ext r x) rv q⟩
theorem tT.seqS {m : M Bool} {k : Bool → GH → RS} {Q : Bool → Hp → Prop} (r : Rep X.K ca ρ G H) (s : RelS X.K ca ρ H σ τ) (h : PostS X.K ca Wx D ρ H ((m τ G).toS τ k))
    (hk : ∀ b G1 ρ1 H1, Ext ρ H ρ1 H1 → Rep X.K ca ρ1 G1 H1 → RelS X.K ca ρ1 H1 σ τ → PostS X.K ca Wx D ρ1 H1 (k b G1) → Q b H1) : tT X.K ca Wx m σ H Q :=
  ⟨ρ, G, τ, r, s, (PostS.of s r h).imp fun b G1 ρ1 H1 x r1 q => hk b G1 ρ1 H1 x r1 (s.ext r x) q⟩
theorem forceS_ok {t1 : T} {G1 : GH} {ρ0 ρ1 : List Addr} {H0 H1 : Hp} {v1 : V} {k : W → GH → RS} (x : Ext ρ0 H0 ρ1 H1) (r1 : Rep X.K ca ρ1 G1 H1) (q1 : RelT X.K ca H0 ρ1 H1 v1 t1) (h : PostS X.K ca Wx D ρ0 H0 ((force t1 G1).toS τ k)) :
    ∃ w G2 ρ2, Ext ρ0 H0 ρ2 H1 ∧ Rep X.K ca ρ2 G2 H1 ∧ RelW X.K ca ρ2 H1 v1 w ∧ (∀ (n : Nat) a, ρ1[n]? = some a → ρ2[n]? = some a) ∧ PostS X.K ca Wx D ρ2 H1 (k w G2) := by
  cases t1 with
  | val w => exact ⟨w, G1, ρ1, x, r1, q1, fun _ _ e => e, PostS.later h x⟩
  | tmp ws =>
    obtain ⟨p, vs, e, hn, h0, hp, hv⟩ := q1
    subst e
    have y := x.take h0
    refine ⟨.loc G1.length, G1 ++ [.lst ws], ρ1 ++ [p], y, r1.take hn hp hv, .loc ?_, fun n a e => ?_, PostS.later h y⟩
    · rw [← r1.len]
      simp
    · rw [List.getElem?_append_left (List.getElem?_eq_some_iff.mp e).1]; exact e
theorem tE.seqFS {m : M T} {k : W → GH → RS} {Q : VK} (r : Rep X.K ca ρ G H) (s : RelS X.K ca ρ H σ τ) (h : PostS X.K ca Wx D ρ H ((mF m τ G).toS τ k))
    (hk : ∀ w G1 ρ1 H1 v, Ext ρ H ρ1 H1 → Rep X.K ca ρ1 G1 H1 → RelS X.K ca ρ1 H1 σ τ → RelW X.K ca ρ1 H1 v w → PostS X.K ca Wx D ρ1 H1 (k w G1) → Q v H1) : tE X.K ca Wx m σ H Q := by
  have h2 : PostS X.K ca Wx D ρ H ((m τ G).toS τ fun t G1 => (force t G1).toS τ k) := by
    unfold mF at h
    cases e : m τ G with
    | ok t G1 => rw [e] at h; exact h
    | ex c fs G1 => rw [e] at h; exact h
    | bad => rw [e] at h; exact h
  refine ⟨ρ, G, τ, r, s, ?_⟩
  cases e : m τ G with
  | ok t G1 =>
    rw [e] at h2
    intro ρ1 H1 x1 r1 v q1
    obtain ⟨w, G2, ρ2, y, r2, q2, pre, h3⟩ := forceS_ok x1 r1 q1 h2
    exact hk w G2 ρ2 H1 v y r2 ((s.ext r x1).pre pre) q2 h3
  | ex c fs G1 =>
    rw [e] at h2
    exact PostS.of (k := fun t G1 => (force t G1).toS τ k) (r := .ex c fs G1) s r h2
  | bad => rw [e] at h2; exact h2

variable {st : Stmt} {rest : List Stmt} {e : Expr} {m1 m2 : MS} {m : M T} {pos : Pos}
theorem b_nil : PSs X [] (tS X.K ca Wx sNext) := PSs.weak pss_nil fun D σ H ⟨ρ, G, τ, r, s, h⟩ => h ρ H σ .refl r s
theorem b_cons (h1 : PS X st (tS X.K ca Wx m1)) (h2 : PSs X rest (tS X.K ca Wx m2)) : PSs X (st :: rest) (tS X.K ca Wx (sSeq m1 m2)) := by
  refine PSs.weak (pss_cons h1 h2) fun D σ H ⟨ρ, G, τ, r, s, h⟩ => ⟨ρ, G, τ, r, s, ?_⟩
  unfold sSeq at h
  cases e : m1 τ G with
  | nx τ1 G1 => rw [e] at h; exact fun ρ' H' σ' x r' s' => ⟨ρ', G1, τ1, r', s', PostS.later h x⟩
  | rt w G1 => rw [e] at h; exact h
  | bk τ1 G1 => rw [e] at h; exact h
  | ct τ1 G1 => rw [e] at h; exact h
  | ex c fs τ1 G1 => rw [e] at h; exact h
  | bad => rw [e] at h; exact h
theorem b_one (h1 : PS X st (tS X.K ca Wx m1)) : PSs X [st] (tS X.K ca Wx m1) := pss_one h1
theorem s_pass : PS X (.Pass pos) (tS X.K ca Wx sNext) := PS.weak ps_pass fun D σ H ⟨ρ, G, τ, r, s, h⟩ => h ρ H σ .refl r s
theorem s_doc {x j pos pos'} : PS X (.Expr (.Constant (.str x) j pos) pos') (tS X.K ca Wx sNext) := PS.weak ps_doc fun D σ H ⟨ρ, G, τ, r, s, h⟩ => h ρ H σ .refl r s
theorem s_break : PS X (.Break pos) (tS X.K ca Wx sBrk) := PS.weak ps_break fun D σ H ⟨ρ, G, τ, r, s, h⟩ => h ρ H σ .refl r s
theorem s_continue : PS X (.Continue pos) (tS X.K ca Wx sCt) := PS.weak ps_continue fun D σ H ⟨ρ, G, τ, r, s, h⟩ => h ρ H σ .refl r s
theorem s_expr (he : PE X e (tE X.K ca Wx m)) (hs : swapsWith e none pos.line X.env = pure false := by rfl) : PS X (.Expr e pos) (tS X.K ca Wx (sDrop m)) := by
  refine PS.weak (ps_expr he hs) fun D σ H ⟨ρ, G, τ, r, s, h⟩ => ?_
  exact tE.seqS r s h fun t G1 ρ1 H1 v x1 r1 s1 q1 h1 => h1 ρ1 H1 σ .refl r1 s1
theorem s_ret (he : PE X e (tE X.K ca Wx m)) : PS X (.Return (some e) pos) (tS X.K ca Wx (sRet m)) := by
  refine PS.weak (ps_ret he) fun D σ H ⟨ρ, G, τ, r, s, h⟩ => ?_
  exact tE.seqFS r s h fun w G1 ρ1 H1 v x1 r1 s1 q1 h1 => h1 ρ1 H1 v .refl r1 q1
theorem s_retN : PS X (.Return none pos) (tS X.K ca Wx sRetN) := PS.weak ps_retN fun D σ H ⟨ρ, G, τ, r, s, h⟩ => h ρ H .non .refl r .non
theorem s_if {c : Expr} {a b : List Stmt} {mc : M Bool} (hc : PT X c (tT X.K ca Wx mc)) (ha : PSs X a (tS X.K ca Wx m1)) (hb : PSs X b (tS X.K ca Wx m2)) : PS X (.If c a b pos) (tS X.K ca Wx (sIf mc m1 m2)) := by
  refine PS.weak (ps_if hc ha hb) fun D σ H ⟨ρ, G, τ, r, s, h⟩ => ?_
  refine tT.seqS r s h fun b G1 ρ1 H1 x1 r1 s1 h1 => ?_
  cases b with
  | true => exact ⟨ρ1, G1, τ, r1, s1, h1⟩
  | false => exact ⟨ρ1, G1, τ, r1, s1, h1⟩
theorem set_of {i : Nat} {D : Ends} {σ : SSt} {H : Hp} (h : tS X.K ca Wx (sSet i m) D σ H) : tAsg (tE X.K ca Wx m) (gName i) D σ H := by
  obtain ⟨ρ, G, τ, r, s, h⟩ := h
  exact tE.seqFS r s h fun w G1 ρ1 H1 v x1 r1 s1 q1 h1 => h1 ρ1 H1 _ .refl r1 (s1.set i q1)
theorem s_set {i : Nat} {x : Str} {pos' : Pos} (hN : X.N.Nodup) (hi : X.N[i]? = some x) (hx : Loc X.env.scope x) (he : PE X e (tE X.K ca Wx m)) (hs : swapsWith e (some (.Name x pos')) pos.line X.env = pure false := by rfl)
    (hf : X.fn x = true ∨ X.env.scope.names.lookup x = some .local := by first | exact .inl rfl | exact .inr rfl | assumption) : PS X (.Assign [.Name x pos'] e pos) (tS X.K ca Wx (sSet i m)) :=
  PS.weak (ps_set hN hi hx he hs hf) fun D σ H h => set_of h
/-- x op= e, by values -/
def SaysIp (X : Cx) (ca : Nat → Addr) (r : TIp) (f : T → T → GH → R T) : Prop := Says2 X ca r f
theorem mVar_ok {α : Type} {i : Nat} {k : T → GH → RS} (s : RelS X.K ca ρ H σ τ) (h : PostS X.K ca Wx D ρ H ((mVar i τ G).toS τ k)) : ∃ w v, τ[i]? = some (some w) ∧ σ[i]? = some (some v) ∧ RelW X.K ca ρ H v w ∧ PostS X.K ca Wx D ρ H (k (.val w) G) := by
  unfold mVar at h
  cases e : τ[i]? with
  | none => rw [e] at h; exact h.elim
  | some o =>
    cases o with
    | none => rw [e] at h; exact h.elim
    | some w =>
      rw [e] at h
      obtain ⟨v, e1, q⟩ := s.2 i w e
      exact ⟨w, v, rfl, e1, q, h⟩
theorem s_aug {i : Nat} {x : Str} {op : Operator} {ti : TIp} {f : T → T → GH → R T} {pos' : Pos} (hN : X.N.Nodup) (hi : X.N[i]? = some x) (hx : Loc X.env.scope x) (he : PE X e (tE X.K ca Wx m)) (ho : PIp X op ti) (hs : Says2 X ca ti f)
    (hf : X.fn x = true ∨ X.env.scope.names.lookup x = some .local := by first | exact .inl rfl | exact .inr rfl | assumption) :
    PS X (.AugAssign (.Name x pos') op e pos) (tS X.K ca Wx (sAug i f m)) := by
  refine PS.weak (ps_aug hN hi hx he ho hf) fun D σ H ⟨ρ, G, τ, r, s, h⟩ => ?_
  obtain ⟨w, v, _, e1, q, h⟩ := mVar_ok (α := T) s h
  refine ⟨v, e1, tE.seqS r s h fun t G1 ρ1 H1 y x1 r1 s1 q1 h1 => ?_⟩
  refine hs Wx σ ρ1 G1 H1 H v y (.val w) t _ r1 (q.ext r x1) q1 ?_
  -- the sum, forced
  cases e : f (.val w) t G1 with
  | ok u G2 =>
    rw [e] at h1
    intro ρ2 H2 x2 r2 z qz
    obtain ⟨w3, G3, ρ3, y3, r3, q3, pre, h3⟩ := forceS_ok x2 r2 qz h1
    exact h3 ρ3 H2 _ .refl r3 (((s1.ext r1 x2).pre pre).set i q3)
  | ex c fs G2 => rw [e] at h1; exact PostS.of (k := fun w G2 => .nx (τ.set i (some w)) G2) (r := .ex c fs G2) s1 r1 h1
  | bad => rw [e] at h1; exact h1
end

/-! while -/
def whileF (c : M Bool) (b : MS) : Nat → Sl → GH → RS
  | 0, _, _ => .bad
  | f + 1, τ, G => (c τ G).toS τ fun x G1 => if x then match b τ G1 with
      | .nx τ2 G2 => whileF c b f τ2 G2
      | .ct τ2 G2 => whileF c b f τ2 G2
      | .bk τ2 G2 => .nx τ2 G2
      | .rt w G2 => .rt w G2
      | .ex e fs τ2 G2 => .ex e fs τ2 G2
      | .bad => .bad
    else .nx τ G1
section
variable {X : Cx} {ca : Nat → Addr} {Wx : WX} {pos : Pos}
theorem s_while {c : Expr} {body : List Stmt} {mc : M Bool} {mb : MS} {n : Nat} (hp : PassesOwn (model X.prog X.w) X.A X.env X.xe) (hc : PT X c (tT X.K ca Wx mc)) (hb : PSs X body (tS X.K ca Wx mb)) :
    PS X (.While c body [] pos) (tS X.K ca Wx (whileF mc mb n)) := by
  refine PS.weak (ps_while hp hc hb) fun D σ H ⟨ρ, G, τ, r, s, h⟩ => ?_
  refine ⟨fun m σ H => ∃ ρ G τ, Rep X.K ca ρ G H ∧ RelS X.K ca ρ H σ τ ∧ PostS X.K ca Wx D ρ H (whileF mc mb m τ G), ⟨n, ρ, G, τ, r, s, h⟩, ?_⟩
  rintro m σ1 H1 ⟨ρ1, G1, τ1, r1, s1, h1⟩
  cases m with
  | zero => exact h1.elim
  | succ m =>
    refine tT.seqS r1 s1 h1 fun b G2 ρ2 H2 x2 r2 s2 h2 => ?_
    cases b with
    | false =>
      rw [if_neg Bool.false_ne_true] at h2 ⊢
      exact h2 ρ2 H2 σ1 .refl r2 s2
    | true =>
      rw [if_pos rfl] at h2 ⊢
      refine ⟨fun σ' H' => ∃ ρ G τ, Rep X.K ca ρ G H' ∧ RelS X.K ca ρ H' σ' τ ∧ PostS X.K ca Wx D ρ H' (whileF mc mb m τ G), fun σ' H' hw => ⟨m, Nat.lt_succ_self m, hw⟩, ρ2, G2, τ1, r2, s2, ?_⟩
      cases e : mb τ1 G2 with
      | nx τ3 G3 => rw [e] at h2; exact fun ρ' H' σ' x r s => ⟨ρ', G3, τ3, r, s, PostS.later h2 x⟩
      | ct τ3 G3 => rw [e] at h2; exact fun ρ' H' σ' x r s => ⟨ρ', G3, τ3, r, s, PostS.later h2 x⟩
      | bk τ3 G3 => rw [e] at h2; exact h2
      | rt w G3 => rw [e] at h2; exact h2
      | ex c fs τ3 G3 => rw [e] at h2; exact h2
      | bad => rw [e] at h2; exact h2
end

/-! what a for walks: the items, and the lists that must stand still -/
abbrev Src := List (Nat × List W)
open Classical in
noncomputable def still (src : Src) (G : GH) : Bool := decide (∀ p ∈ src, G[p.1]?.bind GO.rd = some p.2)
open Classical in
theorem still_iff {src : Src} {G : GH} : still src G = true ↔ ∀ p ∈ src, G[p.1]?.bind GO.rd = some p.2 := by
  unfold still
  exact decide_eq_true_iff
@[simp] theorem still_nil {G : GH} : still [] G = true := still_iff.mpr fun _ h => by cases h
section
variable (K : PySem.W.Frag) (ca : Nat → Addr)
/-- the walk J yields these items while the lists stand still -/
def ItOk (J : It) (its : List W) (src : Src) (ρ : List Addr) (H : Hp) : Prop :=
  ∀ (i : Nat) ρ' (G' : GH) H', Ext ρ H ρ' H' → Rep K ca ρ' G' H' → still src G' = true →
    (∀ w, its[i]? = some w → J.go i H' ∧ ∀ x H2, J.yld i H' x H2 → Ext ρ' H' ρ' H2 ∧ Rep K ca ρ' G' H2 ∧ RelW K ca ρ' H2 x w) ∧ (its.length ≤ i → J.stop i H')
def tI (Wx : WX) (m : M (List W × Src)) : TI := fun σ H R => ∃ ρ G τ, Rep K ca ρ G H ∧ RelS K ca ρ H σ τ ∧
  Post K ca Wx σ ρ H (fun p _ ρ' H' => ∀ J, ItOk K ca J p.1 p.2 ρ' H' → R J H') (m τ G)
end
/-- a target -/
abbrev MG := W → Sl → Option Sl
def tG (K : PySem.W.Frag) (ca : Nat → Addr) (g : MG) : TG := fun v σ H Q => ∃ ρ G τ w, Rep K ca ρ G H ∧ RelS K ca ρ H σ τ ∧ RelW K ca ρ H v w ∧ ∃ τ', g w τ = some τ' ∧ ∀ ρ' H' σ', Ext ρ H ρ' H' → Rep K ca ρ' G H' → RelS K ca ρ' H' σ' τ' → Q σ' H'
noncomputable def forL (src : Src) (g : MG) (b : MS) : List W → Sl → GH → RS
  | [], τ, G => if still src G then .nx τ G else .bad
  | w :: ws, τ, G => if still src G then match g w τ with
      | none => .bad
      | some τ1 => match b τ1 G with
        | .nx τ2 G2 => forL src g b ws τ2 G2
        | .ct τ2 G2 => forL src g b ws τ2 G2
        | .bk τ2 G2 => .nx τ2 G2
        | .rt w G2 => .rt w G2
        | .ex e fs τ2 G2 => .ex e fs τ2 G2
        | .bad => .bad
    else .bad
noncomputable def sFor (m : M (List W × Src)) (g : MG) (b : MS) : MS := fun τ G => (m τ G).toS τ fun p G1 => forL p.2 g b p.1 τ G1
def gN (i : Nat) : MG := fun w τ => some (τ.set i (some w))
section
variable {X : Cx} {ca : Nat → Addr} {Wx : WX} {pos : Pos}
theorem g_name {i : Nat} {x : Str} (hN : X.N.Nodup) (hi : X.N[i]? = some x) (hx : Loc X.env.scope x) (hf : X.fn x = true ∨ X.env.scope.names.lookup x = some .local := by first | exact .inl rfl | exact .inr rfl | assumption) : PG X (.Name x pos) (tG X.K ca (gN i)) := by
  refine ⟨fun pins s σ H v u Q I rv h => (pg_name hN hi hx hf).run pins s σ H v u Q I rv ?_⟩
  obtain ⟨ρ, G, τ, w, r, s, q, τ', e, h⟩ := h
  cases e
  exact h ρ H _ .refl r (s.set i q)
theorem s_for {tg iter : Expr} {body : List Stmt} {mi : M (List W × Src)} {g : MG} {mb : MS} (hp : PassesOwn (model X.prog X.w) X.A X.env X.xe) (hc : X.calm = true) (hi : PI X tg iter (tI X.K ca Wx mi)) (hg : PG X tg (tG X.K ca g)) (hb : PSs X body (tS X.K ca Wx mb))
    (hs : ∀ x, foldedSetIterable iter X.env x = pure x := by intro _; rfl) : PS X (.For tg iter body [] pos) (tS X.K ca Wx (sFor mi g mb)) := by
  refine PS.weak (ps_for hp hc hi hg hb hs) fun D σ H ⟨ρ, G, τ, r, s, h⟩ => ?_
  refine ⟨ρ, G, τ, r, s, (PostS.of s r h).imp fun p G1 ρ1 H1 x1 r1 h1 J hJ => ?_⟩
  obtain ⟨its, src⟩ := p
  refine ⟨fun i m σ' H' => m = its.length - i ∧ i ≤ its.length ∧ ∃ ρ' G' τ', Ext ρ1 H1 ρ' H' ∧ Rep X.K ca ρ' G' H' ∧ RelS X.K ca ρ' H' σ' τ' ∧ PostS X.K ca Wx D ρ' H' (forL src g mb (its.drop i) τ' G'),
    ⟨its.length, rfl, Nat.zero_le _, ρ1, G1, τ, .refl, r1, s.ext r x1, h1⟩, ?_⟩
  rintro i m σ2 H2 ⟨rfl, hi, ρ2, G2, τ2, x2, r2, s2, h2⟩
  by_cases hlt : i < its.length
  · rw [List.drop_eq_getElem_cons hlt] at h2
    unfold forL at h2
    cases hs : still src G2 with
    | false => rw [hs] at h2; exact h2.elim
    | true =>
      rw [hs, if_pos rfl] at h2
      obtain ⟨hgo, _⟩ := hJ i ρ2 G2 H2 x2 r2 hs
      obtain ⟨go, yl⟩ := hgo its[i] (List.getElem?_eq_getElem hlt)
      refine .inr ⟨go, fun σ' H' => ∃ ρ' G' τ', Ext ρ1 H1 ρ' H' ∧ Rep X.K ca ρ' G' H' ∧ RelS X.K ca ρ' H' σ' τ' ∧ PostS X.K ca Wx D ρ' H' (forL src g mb (its.drop (i + 1)) τ' G'),
        fun σ' H' hw => ⟨its.length - (i + 1), by omega, rfl, hlt, hw⟩, fun x H3 hy => ?_⟩
      obtain ⟨x3, r3, q3⟩ := yl x H3 hy
      cases e : g its[i] τ2 with
      | none => rw [e] at h2; exact h2.elim
      | some τ3 =>
        rw [e] at h2
        refine ⟨ρ2, G2, τ2, its[i], r3, s2.ext r2 x3, q3, τ3, e, fun ρ4 H4 σ4 x4 r4 s4 => ⟨ρ4, G2, τ3, r4, s4, ?_⟩⟩
        have x04 := (x2.trans x3).trans x4
        have x24 := x3.trans x4
        dsimp only at h2
        cases eb : mb τ3 G2 with
        | nx τ5 G5 => rw [eb] at h2; exact fun ρ' H' σ' x r s => ⟨ρ', G5, τ5, x04.trans x, r, s, PostS.later h2 (x24.trans x)⟩
        | ct τ5 G5 => rw [eb] at h2; exact fun ρ' H' σ' x r s => ⟨ρ', G5, τ5, x04.trans x, r, s, PostS.later h2 (x24.trans x)⟩
        | bk τ5 G5 => rw [eb] at h2; exact PostS.later (r := .nx τ5 G5) h2 x24
        | rt w G5 => rw [eb] at h2; exact PostS.later (r := .rt w G5) h2 x24
        | ex c fs τ5 G5 => rw [eb] at h2; exact PostS.later (r := .ex c fs τ5 G5) h2 x24
        | bad => rw [eb] at h2; exact h2
  · have e : i = its.length := by omega
    subst e
    rw [List.drop_length] at h2
    unfold forL at h2
    cases hs : still src G2 with
    | false => rw [hs] at h2; exact h2.elim
    | true =>
      rw [hs, if_pos rfl] at h2
      obtain ⟨_, hst⟩ := hJ its.length ρ2 G2 H2 x2 r2 hs
      exact .inl ⟨hst (Nat.le_refl _), h2 ρ2 H2 σ2 .refl r2 s2⟩
/-! what is walked -/
def srcOf : T → List W → Src
  | .val (.loc n), ws => [(n, ws)]
  | _, _ => []
def iterL (t : T) (G : GH) : R (List W × Src) := match rdl t G with
  | some ws => .ok (ws, srcOf t ws) G
  | none => .bad
def miL (m : M T) : M (List W × Src) := fun τ G => (m τ G).bind iterL
theorem still_one {n : Nat} {ws : List W} {G : GH} (h : still [(n, ws)] G = true) : G[n]?.bind GO.rd = some ws := by
  exact still_iff.mp h (n, ws) (List.mem_singleton.mpr rfl)
/-- the list stays to be read -/
theorem rdl_later {K : PySem.W.Frag} {ρ ρ' : List Addr} {G G' : GH} {H0 H H' : Hp} {v : V} {t : T} {ws : List W} (q : RelT K ca H0 ρ H v t) (h : rdl t G = some ws) (r : Rep K ca ρ G H) (x : Ext ρ H ρ' H') (r' : Rep K ca ρ' G' H') (hs : still (srcOf t ws) G' = true) :
    ∃ a vs, v = .ref a ∧ SqL K H' a vs ∧ RelWs K ca ρ' H' vs ws := by
  have h' : rdl t G' = some ws := by
    cases t with
    | tmp us => exact h
    | val w =>
      cases w with
      | loc n => exact still_one hs
      | _ => exact h
  exact rdl_of r' (q.ext r x) h'
theorem itl_ok {K : PySem.W.Frag} {ρ : List Addr} {G : GH} {H0 H : Hp} {a : Addr} {t : T} {ws : List W} (q : RelT K ca H0 ρ H (.ref a) t) (h : rdl t G = some ws) (r : Rep K ca ρ G H) : ItOk K ca (Itl K a) ws (srcOf t ws) ρ H := by
  intro i ρ' G' H' x r' hs
  obtain ⟨b, vs, e, hv, qs⟩ := rdl_later q h r x r' hs
  cases e
  refine ⟨fun w hw => ?_, fun hl => ⟨vs, hv, by rw [qs.length]; exact hl⟩⟩
  obtain ⟨v, e1, q1⟩ := relWs_get qs hw
  refine ⟨⟨vs, v, hv, e1⟩, fun y H2 hy => ?_⟩
  obtain ⟨rfl, hy⟩ := hy
  have e2 := hy vs hv
  rw [e1] at e2
  cases e2
  exact ⟨.refl, r', q1⟩
end
end Sy
set_option Elab.async false
set_option linter.all false
set_option maxRecDepth 100000
set_option maxHeartbeats 4000000
namespace Sy
open PySem PySem.Spec PyProof.Rows L2

/-! walks -/
section
variable {X : Cx} {ca : Nat → Addr} {Wx : WX} {pos : Pos} {tg : Expr}
theorem PI.weak {X : Cx} {tg e : Expr} {t t' : TI} (h : PI X tg e t) (f : ∀ σ H R, t' σ H R → t σ H R) : PI X tg e t' := ⟨fun pins s σ H R I q => h.run pins s σ H R I (f σ H R q)⟩
theorem it_lst {pins : List (Addr × Obj)} {σ : SSt} {H : Hp} {s : Shared} {R : It → Hp → Prop} {a : Addr} {vs : List V} (I : Inv X pins σ H s) (hq : SqL X.K H a vs) (q : R (Itl X.K a) H) :
    wpAny (model X.prog X.w) X.A (pyIter (.ref a)) (PIE X pins σ tg R) X.xe s := by
  obtain ⟨its, rv, p, hz⟩ := I.list hq
  refine wpAny_pyIter_list p.isList ?_
  have J : Inv X pins σ H { s with heap := s.heap.push { cls := .type "list_iterator", data := .fields #[.ref a, rawInt 0] } } := I.kept (t' := s.toks) fun b o e => Heap.get?_push_of_some _ e
  refine ⟨s.heap.objs.size, [s.heap.objs.size], _, _, H, rfl, J, turn_list a _, ⟨_, Heap.get?_push_size _ rfl, rfl, rfl⟩, fun b hb => ?_, q⟩
  obtain rfl : b = s.heap.objs.size := by simpa using hb
  exact I.fpOk (Nat.le_refl _) (I.hok.fresh (Nat.le_refl _))
theorem it_tpl {pins : List (Addr × Obj)} {σ : SSt} {H : Hp} {s : Shared} {R : It → Hp → Prop} {a : Addr} {vs : List V} (I : Inv X pins σ H s) (hq : SqT X.K H a vs) (q : R (Itt X.K a) H) :
    wpAny (model X.prog X.w) X.A (pyIter (.ref a)) (PIE X pins σ tg R) X.xe s := by
  obtain ⟨its, rv, p, hz⟩ := I.tuple hq
  refine wpAny_pyIter_tuple (show s.heap.IsTuple a its.toArray from p) ?_
  have J : Inv X pins σ H { s with heap := s.heap.push { cls := .type "tuple_iterator", data := .fields #[.ref a, rawInt 0] } } := I.kept (t' := s.toks) fun b o e => Heap.get?_push_of_some _ e
  refine ⟨s.heap.objs.size, [s.heap.objs.size], _, _, H, rfl, J, turn_tuple a _, ⟨_, Heap.get?_push_size _ rfl, rfl, rfl⟩, fun b hb => ?_, q⟩
  obtain rfl : b = s.heap.objs.size := by simpa using hb
  exact I.fpOk (Nat.le_refl _) (I.hok.fresh (Nat.le_refl _))
theorem it_txt {pins : List (Addr × Obj)} {σ : SSt} {H : Hp} {s : Shared} {R : It → Hp → Prop} {x : Str} {t : Tok} (I : Inv X pins σ H s) (q : R (Its x) H) :
    wpAny (model X.prog X.w) X.A (pyIter (.str x t)) (PIE X pins σ tg R) X.xe s := by
  cases ha : x.cps.all (· < 128)
  · exact wpAny_pyIter_wide ha (pi_one (tk := s.toks) I _ (turn_str _ x t "str_iterator" (.inr rfl)) ⟨_, Heap.get?_push_size _ rfl, rfl, rfl⟩ q)
  · exact wpAny_pyIter_ascii ha (pi_one (tk := s.toks) I _ (turn_str _ x t "str_ascii_iterator" (.inl rfl)) ⟨_, Heap.get?_push_size _ rfl, rfl, rfl⟩ q)
def signsW (x : Str) : List W := x.cps.toList.map fun c => .str ⟨#[c]⟩
/-- a list, a tuple, a text -/
def iterA (t : T) (G : GH) : R (List W × Src) := match t with
  | .tmp ws => .ok (ws, []) G
  | .val w => match w with
    | .tup ws => .ok (ws, []) G
    | .str x => .ok (signsW x, []) G
    | .frl ws => .ok (ws, []) G
    | .loc n => match rdw G (.loc n) with
      | some ws => .ok (ws, [(n, ws)]) G
      | none => .bad
    | _ => .bad
def miA (m : M T) : M (List W × Src) := fun τ G => (m τ G).bind iterA
theorem itt_ok {K : PySem.W.Frag} {ρ : List Addr} {G : GH} {H : Hp} {a : Addr} {vs : List V} {ws : List W} (r : Rep K ca ρ G H) (hv : SqT K H a vs) (q : RelWs K ca ρ H vs ws) : ItOk K ca (Itt K a) ws [] ρ H := by
  intro i ρ' G' H' x r' _
  have hv' := (r.stay x).sqT hv
  have q' := relWs_ext q r x
  refine ⟨fun w hw => ?_, fun hl => ⟨vs, hv', by rw [q.length]; exact hl⟩⟩
  obtain ⟨v, e1, q1⟩ := relWs_get q' hw
  refine ⟨⟨vs, v, hv', e1⟩, fun y H2 hy => ?_⟩
  obtain ⟨rfl, hy⟩ := hy
  have e2 := hy vs hv'
  rw [e1] at e2
  cases e2
  exact ⟨.refl, r', q1⟩
theorem its_ok {K : PySem.W.Frag} {ρ : List Addr} {H : Hp} {x : Str} : ItOk K ca (Its x) (signsW x) [] ρ H := by
  intro i ρ' G' H' e r' _
  have hl : (signsW x).length = x.cps.size := by unfold signsW; simp
  refine ⟨fun w hw => ?_, fun h => by show x.cps.size ≤ i; omega⟩
  have h1 : i < x.cps.size := by rw [← hl]; exact (List.getElem?_eq_some_iff.mp hw).1
  refine ⟨h1, fun y H2 hy => ?_⟩
  obtain ⟨rfl, c, hc, rfl⟩ := hy
  unfold signsW at hw
  rw [List.getElem?_map, Array.getElem?_toList, hc] at hw
  cases hw
  exact ⟨.refl, r', .str _⟩
theorem i_any {e : Expr} {m : M T} (he : PE X e (tE X.K ca Wx m)) : PI X tg e (tI X.K ca Wx (miA m)) := by
  refine ⟨fun pins s σ H R I ⟨ρ, G, τ, r, sl, h⟩ => ?_⟩
  refine thn (he.run pins s σ H (fun v H1 => ∃ ρ1 G1 t, RelT X.K ca H ρ1 H1 v t ∧ Rep X.K ca ρ1 G1 H1 ∧ Post X.K ca Wx σ ρ1 H1 (fun p _ ρ' H' => ∀ J, ItOk X.K ca J p.1 p.2 ρ' H' → R J H') (iterA t G1)) I ?_) fun u s1 hh => ?_
  · exact tE.seq r sl h fun t G1 ρ1 H1 v x1 r1 s1 q1 h1 => ⟨ρ1, G1, t, q1, r1, h1⟩
  · obtain ⟨v, H1, I1, rv, ρ1, G1, t, q1, r1, h1⟩ := hh
    cases t with
    | tmp ws =>
      obtain ⟨p, vs, rfl, hn, h0, hp, qs⟩ := q1
      cases rv
      exact it_lst I1 (.of hp) (h1 ρ1 H1 .refl r1 _ (itl_ok (t := .tmp ws) (H0 := H) ⟨p, vs, rfl, hn, h0, hp, qs⟩ rfl r1))
    | val w =>
      cases w with
      | tup ws =>
        obtain ⟨a, vs, rfl, hv, qs⟩ := relW_tup q1
        cases rv
        exact it_tpl I1 hv (h1 ρ1 H1 .refl r1 _ (itt_ok r1 hv qs))
      | frl ws =>
        obtain ⟨a, vs, rfl, hv, qs⟩ := relW_frl q1
        cases rv
        exact it_lst I1 hv.sq (h1 ρ1 H1 .refl r1 _ (itl_ok (t := .val (.frl ws)) (H0 := H) q1 rfl r1))
      | str x =>
        cases q1
        obtain ⟨t, rfl⟩ := rv
        exact it_txt I1 (h1 ρ1 H1 .refl r1 _ its_ok)
      | loc n =>
        cases e : rdw G1 (.loc n) with
        | none =>
          have h1' : Post X.K ca Wx σ ρ1 H1 (fun (p : List W × Src) _ ρ' H' => ∀ J, ItOk X.K ca J p.1 p.2 ρ' H' → R J H') (match rdw G1 (.loc n) with | some ws => .ok (ws, [(n, ws)]) G1 | none => .bad) := h1
          rw [e] at h1'
          exact h1'.elim
        | some ws =>
          have h1' : Post X.K ca Wx σ ρ1 H1 (fun (p : List W × Src) _ ρ' H' => ∀ J, ItOk X.K ca J p.1 p.2 ρ' H' → R J H') (match rdw G1 (.loc n) with | some ws => .ok (ws, [(n, ws)]) G1 | none => .bad) := h1
          rw [e] at h1'
          obtain ⟨a, vs, rfl, hv, qs⟩ := rdw_of r1 q1 e
          cases rv
          exact it_lst I1 hv (h1' ρ1 H1 .refl r1 _ (itl_ok (t := .val (.loc n)) (H0 := H) q1 e r1))
      | _ => exact h1.elim
/-! ranges -/
def rangeW (lo : Int) (n : Nat) : List W := (List.range n).map fun (i : Nat) => .int (lo + (i : Int))
theorem itr_ok {K : PySem.W.Frag} {ρ : List Addr} {H : Hp} {lo : Int} {n : Nat} : ItOk K ca (Itr lo n) (rangeW lo n) [] ρ H := by
  intro i ρ' G' H' e r' _
  have hl : (rangeW lo n).length = n := by unfold rangeW; simp
  refine ⟨fun w hw => ?_, fun h => by show n ≤ i; omega⟩
  have h1 : i < n := by rw [← hl]; exact (List.getElem?_eq_some_iff.mp hw).1
  refine ⟨h1, fun y H2 hy => ?_⟩
  obtain ⟨rfl, rfl⟩ := hy
  unfold rangeW at hw
  rw [List.getElem?_map, List.getElem?_range h1] at hw
  cases hw
  exact ⟨.refl, r', .int _⟩
def in62 (i : Int) : Bool := decide (-(2 ^ 62) ≤ i) && decide (i < 2 ^ 62)
def iterR (ws : List W) (G : GH) : R (List W × Src) := match ws with
  | [.int j] => if in62 j then .ok (rangeW 0 j.toNat, []) G else .bad
  | _ => .bad
def iterR2 (ws : List W) (G : GH) : R (List W × Src) := match ws with
  | [.int i, .int j] => if in62 i && in62 j then .ok (rangeW i (j - i).toNat, []) G else .bad
  | _ => .bad
def miR (m : M (List W)) : M (List W × Src) := fun τ G => (m τ G).bind iterR
def miR2 (m : M (List W)) : M (List W × Src) := fun τ G => (m τ G).bind iterR2
theorem relWs_one {K : PySem.W.Frag} {ρ : List Addr} {H : Hp} {vs : List V} {w : W} (q : RelWs K ca ρ H vs [w]) : ∃ v, vs = [v] ∧ RelW K ca ρ H v w := by
  cases q with
  | cons q t => cases t; exact ⟨_, rfl, q⟩
theorem relWs_two {K : PySem.W.Frag} {ρ : List Addr} {H : Hp} {vs : List V} {w u : W} (q : RelWs K ca ρ H vs [w, u]) : ∃ v z, vs = [v, z] ∧ RelW K ca ρ H v w ∧ RelW K ca ρ H z u := by
  cases q with
  | cons q t =>
    cases t with
    | cons q2 t2 => cases t2; exact ⟨_, _, rfl, q, q2⟩
theorem i_range1 {a : Expr} {m : M (List W)} {p : Pos} (hg : Gl X "range") (hm : X.mg "range" = none) (ha : PA X [a] (tA X.K ca Wx m)) (hs : starEach [a] X.env = [(false, eval a X.env)] := by rfl) : PI X tg (.Call (.Name "range" p) [a] [] pos) (tI X.K ca Wx (miR m)) := by
  refine PI.weak (pi_range1 hg hm ha hs) fun σ H R ⟨ρ, G, τ, r, sl, h⟩ => ?_
  refine tA.seq r sl h fun ws G1 ρ1 H1 vs x1 r1 s1 q1 h1 => ?_
  unfold iterR at h1
  split at h1
  · split at h1
    · rename_i j z
      obtain ⟨v, rfl, qv⟩ := relWs_one q1
      cases qv
      unfold in62 at z
      rw [Bool.and_eq_true] at z
      exact ⟨j, rfl, of_decide_eq_true z.1, of_decide_eq_true z.2, h1 ρ1 H1 .refl r1 _ itr_ok⟩
    · exact h1.elim
  · exact h1.elim
theorem i_range2 {a b : Expr} {m : M (List W)} {p : Pos} (hg : Gl X "range") (hm : X.mg "range" = none) (ha : PA X [a, b] (tA X.K ca Wx m)) (hs : starEach [a, b] X.env = [(false, eval a X.env), (false, eval b X.env)] := by rfl)
    (hs2 : starEach [b] X.env = [(false, eval b X.env)] := by rfl) : PI X tg (.Call (.Name "range" p) [a, b] [] pos) (tI X.K ca Wx (miR2 m)) := by
  refine PI.weak (pi_range2 hg hm ha hs hs2) fun σ H R ⟨ρ, G, τ, r, sl, h⟩ => ?_
  refine tA.seq r sl h fun ws G1 ρ1 H1 vs x1 r1 s1 q1 h1 => ?_
  unfold iterR2 at h1
  split at h1
  · split at h1
    · rename_i i j z
      obtain ⟨v, u, rfl, qv, qu⟩ := relWs_two q1
      cases qv
      cases qu
      unfold in62 at z
      rw [Bool.and_eq_true, Bool.and_eq_true, Bool.and_eq_true] at z
      exact ⟨i, j, rfl, ⟨of_decide_eq_true z.1.1, of_decide_eq_true z.1.2, of_decide_eq_true z.2.1, of_decide_eq_true z.2.2⟩, h1 ρ1 H1 .refl r1 _ itr_ok⟩
    · exact h1.elim
  · exact h1.elim

/-! arguments that nobody holds yet -/
abbrev RelTs (K : PySem.W.Frag) (ca : Nat → Addr) (H0 : Hp) (ρ : List Addr) (H : Hp) (vs : List V) (ts : List T) : Prop := Paired (RelT K ca H0 ρ H) vs ts
def tB (K : PySem.W.Frag) (ca : Nat → Addr) (Wx : WX) (m : M (List T)) : TA := fun σ H Q => ∃ ρ G τ, Rep K ca ρ G H ∧ RelS K ca ρ H σ τ ∧ Post K ca Wx σ ρ H (fun ts _ ρ' H' => ∀ vs, RelTs K ca H ρ' H' vs ts → Q vs H') (m τ G)
def mNilT : M (List T) := fun _ G => .ok [] G
def mConsT (a : M T) (r : M (List T)) : M (List T) := fun τ G => (a τ G).bind fun t G1 => (r τ G1).bind fun ts G2 => .ok (t :: ts) G2
theorem c_nil : PA X [] (tB X.K ca Wx mNilT) := PA.weak pa_nil fun σ H Q ⟨ρ, G, τ, r0, s0, h⟩ => h ρ H .refl r0 [] .nil
theorem c_cons {e : Expr} {es : List Expr} {m : M T} {ms : M (List T)} (he : PE X e (tE X.K ca Wx m)) (hr : PA X es (tB X.K ca Wx ms)) (hs : starEach (e :: es) X.env = (false, eval e X.env) :: starEach es X.env := by rfl) :
    PA X (e :: es) (tB X.K ca Wx (mConsT m ms)) := by
  refine PA.weak (pa_cons he hr hs) fun σ H Q ⟨ρ, G, τ, r0, s0, h⟩ => ?_
  refine tE.seq r0 s0 h fun t G1 ρ1 H1 v x1 r1 s1 q1 h1 => ?_
  refine ⟨ρ1, G1, τ, r1, s1, h1.bind.imp fun ts G2 ρ2 H2 x2 r2 h2 vs qs => ?_⟩
  exact h2 ρ2 H2 .refl r2 (v :: vs) (.cons (q1.ext r1 x2) (paired_imp qs fun _ _ z => z.back x1 x2))
theorem tB.seq {α : Type} {σ : SSt} {ρ : List Addr} {G : GH} {τ : Sl} {H : Hp} {m : M (List T)} {k : List T → GH → R α} {P : α → GH → List Addr → Hp → Prop} {Q : List V → Hp → Prop} (r : Rep X.K ca ρ G H) (s : RelS X.K ca ρ H σ τ) (h : Post X.K ca Wx σ ρ H P ((m τ G).bind k))
    (hk : ∀ ts G1 ρ1 H1 vs, Ext ρ H ρ1 H1 → Rep X.K ca ρ1 G1 H1 → RelS X.K ca ρ1 H1 σ τ → RelTs X.K ca H ρ1 H1 vs ts → Post X.K ca Wx σ ρ1 H1 P (k ts G1) → Q vs H1) : tB X.K ca Wx m σ H Q :=
  ⟨ρ, G, τ, r, s, h.bind.imp fun ws G1 ρ1 H1 x r1 q vs rv => hk ws G1 ρ1 H1 vs x r1 (s.ext r x) rv q⟩
theorem relTs_one {K : PySem.W.Frag} {ρ : List Addr} {H0 H : Hp} {vs : List V} {t : T} (q : RelTs K ca H0 ρ H vs [t]) : ∃ v, vs = [v] ∧ RelT K ca H0 ρ H v t := by
  cases q with
  | cons q t => cases t; exact ⟨_, rfl, q⟩
theorem relTs_two {K : PySem.W.Frag} {ρ : List Addr} {H0 H : Hp} {vs : List V} {t u : T} (q : RelTs K ca H0 ρ H vs [t, u]) : ∃ v z, vs = [v, z] ∧ RelT K ca H0 ρ H v t ∧ RelT K ca H0 ρ H z u := by
  cases q with
  | cons q t =>
    cases t with
    | cons q2 t2 => cases t2; exact ⟨_, _, rfl, q, q2⟩
/-! enumerate, zip, reversed -/
def enumW (ws : List W) : List W := (ws.zipIdx).map fun p => .tup [.int (p.2 : Int), p.1]
def zipW (ws us : List W) : List W := (ws.zip us).map fun p => .tup [p.1, p.2]
def iterE (ts : List T) (G : GH) : R (List W × Src) := match ts with
  | [t] => match rdl t G with
    | some ws => .ok (enumW ws, srcOf t ws) G
    | none => match rdt t with
      | some ws => .ok (enumW ws, []) G
      | none => .bad
  | _ => .bad
def iterZ (ts : List T) (G : GH) : R (List W × Src) := match ts with
  | [t, u] => match rdl t G, rdl u G with
    | some ws, some us => .ok (zipW ws us, srcOf t ws ++ srcOf u us) G
    | _, _ => match rdt t, rdt u with
      | some ws, some us => .ok (zipW ws us, []) G
      | _, _ => .bad
  | _ => .bad
def iterV (ts : List T) (G : GH) : R (List W × Src) := match ts with
  | [t] => match rdl t G with
    | some ws => .ok (ws.reverse, srcOf t ws) G
    | none => .bad
  | _ => .bad
def miB (f : List T → GH → R (List W × Src)) (m : M (List T)) : M (List W × Src) := fun τ G => (m τ G).bind f
theorem pair_new {K : PySem.W.Frag} {ρ : List Addr} {G : GH} {H : Hp} {p : Addr} {x y : V} {w u : W} (r : Rep K ca ρ G H) (hp : H p = none) (q : RelW K ca ρ H x w) (q2 : RelW K ca ρ H y u) :
    Ext ρ H ρ (upd H p (.tup [x, y])) ∧ Rep K ca ρ G (upd H p (.tup [x, y])) ∧ RelW K ca ρ (upd H p (.tup [x, y])) (.ref p) (.tup [w, u]) :=
  ⟨.laid hp, r.laid hp, RelW.tup' (.of upd_same) (.cons (q.ext r (.laid hp)) (.cons (q2.ext r (.laid hp)) .nil))⟩
theorem ite_ok {K : PySem.W.Frag} {ρ : List Addr} {G : GH} {H0 H : Hp} {a : Addr} {t : T} {ws : List W} (q : RelT K ca H0 ρ H (.ref a) t) (h : rdl t G = some ws) (r : Rep K ca ρ G H) : ItOk K ca (Ite K a) (enumW ws) (srcOf t ws) ρ H := by
  intro i ρ' G' H' x r' hs
  obtain ⟨b, vs, e, hv, qs⟩ := rdl_later q h r x r' hs
  cases e
  have hl : (enumW ws).length = ws.length := by unfold enumW; simp
  refine ⟨fun w hw => ?_, fun hl' => ⟨vs, hv, by rw [qs.length]; omega⟩⟩
  unfold enumW at hw
  rw [List.getElem?_map, List.getElem?_zipIdx] at hw
  cases e0 : ws[i]? with
  | none => rw [e0] at hw; cases hw
  | some w0 =>
    rw [e0] at hw
    have hw' : W.tup [.int ((0 + i : Nat) : Int), w0] = w := by simpa using hw
    obtain ⟨v, e1, q1⟩ := relWs_get qs e0
    refine ⟨⟨vs, v, hv, e1⟩, fun y H2 hy => ?_⟩
    obtain ⟨T, z, rfl, hT, rfl, hy⟩ := hy
    have e2 := hy vs hv
    rw [e1] at e2
    cases e2
    rw [← hw', Nat.zero_add]
    exact pair_new r' hT (.int _) q1
theorem iteT_ok {K : PySem.W.Frag} {ρ : List Addr} {G : GH} {H : Hp} {a : Addr} {vs : List V} {ws : List W} (r : Rep K ca ρ G H) (hv : SqT K H a vs) (q : RelWs K ca ρ H vs ws) : ItOk K ca (IteT K a) (enumW ws) [] ρ H := by
  intro i ρ' G' H' x r' _
  have hv' := (r.stay x).sqT hv
  have qs := relWs_ext q r x
  have hl : (enumW ws).length = ws.length := by unfold enumW; simp
  refine ⟨fun w hw => ?_, fun hl' => ⟨vs, hv', by rw [qs.length]; omega⟩⟩
  unfold enumW at hw
  rw [List.getElem?_map, List.getElem?_zipIdx] at hw
  cases e0 : ws[i]? with
  | none => rw [e0] at hw; cases hw
  | some w0 =>
    rw [e0] at hw
    have hw' : W.tup [.int ((0 + i : Nat) : Int), w0] = w := by simpa using hw
    obtain ⟨v, e1, q1⟩ := relWs_get qs e0
    refine ⟨⟨vs, v, hv', e1⟩, fun y H2 hy => ?_⟩
    obtain ⟨T, z, rfl, hT, rfl, hy⟩ := hy
    have e2 := hy vs hv'
    rw [e1] at e2
    cases e2
    rw [← hw', Nat.zero_add]
    exact pair_new r' hT (.int _) q1
theorem itzT_ok {K : PySem.W.Frag} {ρ : List Addr} {G : GH} {H : Hp} {a b : Addr} {vs us : List V} {ws xs : List W} (r : Rep K ca ρ G H) (hv : SqT K H a vs) (q : RelWs K ca ρ H vs ws) (hu : SqT K H b us) (p : RelWs K ca ρ H us xs) : ItOk K ca (RZ.ItzT K a b) (zipW ws xs) [] ρ H := by
  intro i ρ' G' H' x r' _
  have hv' := (r.stay x).sqT hv
  have hu' := (r.stay x).sqT hu
  have qs := relWs_ext q r x
  have ps := relWs_ext p r x
  have hl : (zipW ws xs).length = min ws.length xs.length := by unfold zipW; simp
  refine ⟨fun w hw => ?_, fun hl' => ⟨vs, us, hv', hu', by rw [qs.length, ps.length]; omega⟩⟩
  unfold zipW at hw
  rw [List.getElem?_map] at hw
  cases e0 : (ws.zip xs)[i]? with
  | none => rw [e0] at hw; cases hw
  | some p0 =>
    rw [e0] at hw
    have hw' : W.tup [p0.1, p0.2] = w := by simpa using hw
    obtain ⟨hi1, hi2⟩ := List.getElem?_zip_eq_some.mp e0
    obtain ⟨v, e1, q1⟩ := relWs_get qs hi1
    obtain ⟨v2, e12, q12⟩ := relWs_get ps hi2
    refine ⟨⟨vs, us, v, v2, hv', hu', e1, e12⟩, fun y H2 hy => ?_⟩
    obtain ⟨T, z, z2, rfl, hT, rfl, hy, hy2⟩ := hy
    have e2 := hy vs hv'
    rw [e1] at e2
    cases e2
    have e22 := hy2 us hu'
    rw [e12] at e22
    cases e22
    rw [← hw']
    exact pair_new r' hT q1 q12
theorem itz_ok {K : PySem.W.Frag} {ρ : List Addr} {G : GH} {H0 H : Hp} {a b : Addr} {t u : T} {ws us : List W} (q : RelT K ca H0 ρ H (.ref a) t) (h : rdl t G = some ws) (q2 : RelT K ca H0 ρ H (.ref b) u) (h2 : rdl u G = some us) (r : Rep K ca ρ G H) :
    ItOk K ca (Itz K a b) (zipW ws us) (srcOf t ws ++ srcOf u us) ρ H := by
  intro i ρ' G' H' x r' hs
  have hs1 : still (srcOf t ws) G' = true := still_iff.mpr fun p hp => still_iff.mp hs p (List.mem_append_left _ hp)
  have hs2 : still (srcOf u us) G' = true := still_iff.mpr fun p hp => still_iff.mp hs p (List.mem_append_right _ hp)
  obtain ⟨a', vs, e, hv, qs⟩ := rdl_later q h r x r' hs1
  cases e
  obtain ⟨b', vs2, e, hv2, qs2⟩ := rdl_later q2 h2 r x r' hs2
  cases e
  have hl : (zipW ws us).length = min ws.length us.length := by unfold zipW; simp
  refine ⟨fun w hw => ?_, fun hl' => ⟨vs, vs2, hv, hv2, by rw [qs.length, qs2.length]; omega⟩⟩
  unfold zipW at hw
  rw [List.getElem?_map] at hw
  cases e0 : (ws.zip us)[i]? with
  | none => rw [e0] at hw; cases hw
  | some p =>
    rw [e0] at hw
    have hw' : W.tup [p.1, p.2] = w := by simpa using hw
    obtain ⟨hi1, hi2⟩ := List.getElem?_zip_eq_some.mp e0
    obtain ⟨v, e1, q1⟩ := relWs_get qs hi1
    obtain ⟨v2, e12, q12⟩ := relWs_get qs2 hi2
    refine ⟨⟨vs, vs2, v, v2, hv, hv2, e1, e12⟩, fun y H2 hy => ?_⟩
    obtain ⟨T, z, z2, rfl, hT, rfl, hy, hy2⟩ := hy
    have e2 := hy vs hv
    rw [e1] at e2
    cases e2
    have e22 := hy2 vs2 hv2
    rw [e12] at e22
    cases e22
    rw [← hw']
    exact pair_new r' hT q1 q12
theorem itv_ok {K : PySem.W.Frag} {ρ : List Addr} {G : GH} {H0 H : Hp} {a : Addr} {n : Nat} {t : T} {ws : List W} (q : RelT K ca H0 ρ H (.ref a) t) (h : rdl t G = some ws) (hn : n = ws.length) (r : Rep K ca ρ G H) : ItOk K ca (Itv K a n) ws.reverse (srcOf t ws) ρ H := by
  subst hn
  intro i ρ' G' H' x r' hs
  obtain ⟨b, vs, e, hv, qs⟩ := rdl_later q h r x r' hs
  cases e
  refine ⟨fun w hw => ?_, fun hl' => by show ws.length ≤ i; simpa using hl'⟩
  have h1 : i < ws.length := by simpa using (List.getElem?_eq_some_iff.mp hw).1
  rw [List.getElem?_reverse h1] at hw
  obtain ⟨v, e1, q1⟩ := relWs_get qs hw
  refine ⟨⟨h1, vs, v, hv, e1⟩, fun y H2 hy => ?_⟩
  obtain ⟨rfl, hy⟩ := hy
  have e2 := hy vs hv
  rw [e1] at e2
  cases e2
  exact ⟨.refl, r', q1⟩
theorem i_enum {e : Expr} {elts : List Expr} {kk : Nat} {p tpos : Pos} {m : M (List T)} (hg : Gl X "enumerate") (hm : X.mg "enumerate" = none) (ha : PA X [e] (tB X.K ca Wx m)) (hs : starEach [e] X.env = [(false, eval e X.env)] := by rfl) :
    PI X (.Tuple elts kk tpos) (.Call (.Name "enumerate" p) [e] [] pos) (tI X.K ca Wx (miB iterE m)) := by
  refine PI.weak (pi_enumA hg hm ha hs) fun σ H R ⟨ρ, G, τ, r, sl, h⟩ => ?_
  refine tB.seq r sl h fun ts G1 ρ1 H1 vs x1 r1 s1 q1 h1 => ?_
  unfold iterE at h1
  split at h1
  · rename_i t
    obtain ⟨v, rfl, qv⟩ := relTs_one q1
    cases e0 : rdl t G1 with
    | none =>
      rw [e0] at h1
      dsimp only at h1
      cases e1 : rdt t with
      | none => rw [e1] at h1; exact h1.elim
      | some ws =>
        rw [e1] at h1
        obtain ⟨a, vs, rfl, hv, qs⟩ := rdt_of qv e1
        exact ⟨a, vs, rfl, .inr ⟨hv, h1 ρ1 H1 .refl r1 _ (iteT_ok r1 hv qs)⟩⟩
    | some ws =>
      rw [e0] at h1
      obtain ⟨a, vs, rfl, hv, qs⟩ := rdl_of r1 qv e0
      exact ⟨a, vs, rfl, .inl ⟨hv, h1 ρ1 H1 .refl r1 _ (ite_ok qv e0 r1)⟩⟩
  · exact h1.elim
theorem i_zip {e e2 : Expr} {elts : List Expr} {kk : Nat} {p tpos : Pos} {m : M (List T)} (hg : Gl X "zip") (hm : X.mg "zip" = none) (ha : PA X [e, e2] (tB X.K ca Wx m)) (hs : starEach [e, e2] X.env = (false, eval e X.env) :: starEach [e2] X.env := by rfl) (hpl : (backTo pos (starEach [e2] X.env)).any (·.1) = false := by rfl) :
    PI X (.Tuple elts kk tpos) (.Call (.Name "zip" p) [e, e2] [] pos) (tI X.K ca Wx (miB iterZ m)) := by
  refine PI.weak (RZ.pi_zipA hg hm ha hs hpl) fun σ H R ⟨ρ, G, τ, r, sl, h⟩ => ?_
  refine tB.seq r sl h fun ts G1 ρ1 H1 vs x1 r1 s1 q1 h1 => ?_
  unfold iterZ at h1
  split at h1
  · rename_i t u
    obtain ⟨v, v2, rfl, qv, qu⟩ := relTs_two q1
    split at h1
    · rename_i ws us e0 e1
      obtain ⟨a, vs, rfl, hv, qs⟩ := rdl_of r1 qv e0
      obtain ⟨b, vs2, rfl, hv2, qs2⟩ := rdl_of r1 qu e1
      exact ⟨a, b, vs, vs2, rfl, .inl ⟨hv, hv2, h1 ρ1 H1 .refl r1 _ (itz_ok qv e0 qu e1 r1)⟩⟩
    · split at h1
      · rename_i ws us e0 e1
        obtain ⟨a, vs, rfl, hv, qs⟩ := rdt_of qv e0
        obtain ⟨b, vs2, rfl, hv2, qs2⟩ := rdt_of qu e1
        exact ⟨a, b, vs, vs2, rfl, .inr ⟨hv, hv2, h1 ρ1 H1 .refl r1 _ (itzT_ok r1 hv qs hv2 qs2)⟩⟩
      · exact h1.elim
  · exact h1.elim
theorem i_reversed {e : Expr} {p : Pos} {m : M (List T)} (hg : Gl X "reversed") (hm : X.mg "reversed" = none) (ha : PA X [e] (tB X.K ca Wx m)) (hs : starEach [e] X.env = [(false, eval e X.env)] := by rfl) :
    PI X tg (.Call (.Name "reversed" p) [e] [] pos) (tI X.K ca Wx (miB iterV m)) := by
  refine PI.weak (pi_reversed hg hm ha hs) fun σ H R ⟨ρ, G, τ, r, sl, h⟩ => ?_
  refine tB.seq r sl h fun ts G1 ρ1 H1 vs x1 r1 s1 q1 h1 => ?_
  unfold iterV at h1
  split at h1
  · rename_i t
    obtain ⟨v, rfl, qv⟩ := relTs_one q1
    cases e0 : rdl t G1 with
    | none => rw [e0] at h1; exact h1.elim
    | some ws =>
      rw [e0] at h1
      obtain ⟨a, vs, rfl, hv, qs⟩ := rdl_of r1 qv e0
      exact ⟨a, vs, rfl, hv, h1 ρ1 H1 .refl r1 _ (itv_ok qv e0 qs.length r1)⟩
  · exact h1.elim
end
end Sy
set_option Elab.async false
set_option linter.all false
set_option maxRecDepth 100000
set_option maxHeartbeats 4000000
namespace Sy
open PySem PySem.Spec PyProof.Rows L2

/-! tuple targets -/
section
variable {X : Cx} {ca : Nat → Addr} {Wx : WX} {pos : Pos}
def tGs (K : PySem.W.Frag) (ca : Nat → Addr) (g : List W → Sl → Option Sl) : TGs := fun vs σ H Q => ∃ ρ G τ ws, Rep K ca ρ G H ∧ RelS K ca ρ H σ τ ∧ RelWs K ca ρ H vs ws ∧ ∃ τ', g ws τ = some τ' ∧ ∀ ρ' H' σ', Ext ρ H ρ' H' → Rep K ca ρ' G H' → RelS K ca ρ' H' σ' τ' → Q σ' H'
def gE : List W → Sl → Option Sl
  | [], τ => some τ
  | _ :: _, _ => none
def gC (g : MG) (gs : List W → Sl → Option Sl) : List W → Sl → Option Sl
  | [], _ => none
  | w :: ws, τ => (g w τ).bind (gs ws)
def gT (gs : List W → Sl → Option Sl) : MG
  | .tup ws, τ => gs ws τ
  | _, _ => none
theorem PG.weak {X : Cx} {e : Expr} {t t' : TG} (h : PG X e t) (f : ∀ v σ H Q, t' v σ H Q → t v σ H Q) : PG X e t' := ⟨fun pins s σ H v u Q I r q => h.run pins s σ H v u Q I r (f v σ H Q q)⟩
theorem PGs.weak {X : Cx} {e : List Expr} {t t' : TGs} (h : PGs X e t) (f : ∀ v σ H Q, t' v σ H Q → t v σ H Q) : PGs X e t' := ⟨fun pins s σ H v u Q I r q => h.run pins s σ H v u Q I r (f v σ H Q q)⟩
theorem g_nil : PGs X [] (tGs X.K ca gE) := PGs.weak pgs_nil fun vs σ H Q ⟨ρ, G, τ, ws, r, s, q, τ', e, h⟩ => by
  cases q with
  | nil => cases e; exact ⟨rfl, h ρ H σ .refl r s⟩
  | cons _ _ => cases e
theorem g_cons {e : Expr} {es : List Expr} {g : MG} {gs : List W → Sl → Option Sl} (h1 : PG X e (tG X.K ca g)) (h2 : PGs X es (tGs X.K ca gs))
    (hs : (assignEach (e :: es) X.env).map (·.2) = assign e X.env :: (assignEach es X.env).map (·.2) := by rfl) : PGs X (e :: es) (tGs X.K ca (gC g gs)) :=
  PGs.weak (pgs_cons h1 h2 hs) fun vs σ H Q ⟨ρ, G, τ, ws, r, s, q, τ', e, h⟩ => by
    cases ws with
    | nil => cases e
    | cons w ws =>
      have e : (g w τ).bind (gs ws) = some τ' := e
      cases vs with
      | nil => cases q
      | cons v vs =>
        have q0 : RelW X.K ca ρ H v w := by cases q; assumption
        have qt : RelWs X.K ca ρ H vs ws := by cases q; assumption
        cases e1 : g w τ with
        | none => rw [e1] at e; cases e
        | some τ1 =>
          rw [e1] at e
          refine ⟨v, vs, rfl, ρ, G, τ, w, r, s, q0, τ1, e1, fun ρ1 H1 σ1 x1 r1 s1 => ?_⟩
          exact ⟨ρ1, G, τ1, ws, r1, s1, relWs_ext qt r x1, τ', e, fun ρ2 H2 σ2 x2 r2 s2 => h ρ2 H2 σ2 (x1.trans x2) r2 s2⟩
theorem g_tup {es : List Expr} {k n : Nat} {gs : List W → Sl → Option Sl} (hc : X.calm = true) (h : PGs X es (tGs X.K ca gs)) (hl : ∀ ws τ τ', gs ws τ = some τ' → ws.length = n)
    (hn : (assignEach es X.env).length = n := by rfl) (hst : (assignEach es X.env).findIdx? (·.1) = none := by rfl) : PG X (.Tuple es k pos) (tG X.K ca (gT gs)) :=
  PG.weak (pg_tup hc h hn hst) fun v σ H Q ⟨ρ, G, τ, w, r, s, q, τ', e, hq⟩ => by
    cases w with
    | tup ws =>
      obtain ⟨a, vs, rfl, hv, qs⟩ := relW_tup q
      exact ⟨a, vs, rfl, hv, qs.length.trans (hl ws τ τ' e), ρ, G, τ, ws, r, s, qs, τ', e, hq⟩
    | _ => cases e
theorem gl_nil : ∀ ws τ τ', gE ws τ = some τ' → ws.length = 0
  | [], _, _, _ => rfl
theorem gl_cons {g : MG} {gs : List W → Sl → Option Sl} {n : Nat} (h : ∀ ws τ τ', gs ws τ = some τ' → ws.length = n) : ∀ ws τ τ', gC g gs ws τ = some τ' → ws.length = n + 1
  | w :: ws, τ, τ', e => by
    have e : (g w τ).bind (gs ws) = some τ' := e
    cases e1 : g w τ with
    | none => rw [e1] at e; cases e
    | some τ1 => rw [e1] at e; rw [List.length_cons, h ws τ1 τ' e]
/-- target = e -/
def sAsg (g : MG) (m : M T) : MS := fun τ G => (mF m τ G).toS τ fun w G1 => match g w τ with
  | some τ' => .nx τ' G1
  | none => .bad
theorem s_asg {tgt e : Expr} {g : MG} {m : M T} (he : PE X e (tE X.K ca Wx m)) (hg : PG X tgt (tG X.K ca g)) (hs : swapsWithSole [tgt] e pos.line X.env = pure false := by rfl) (hw : swappedStores [tgt] e X.env = pure none := by rfl)
    (h1 : (assignEach [tgt] X.env).map (·.2) = [assign tgt X.env] := by rfl) : PS X (.Assign [tgt] e pos) (tS X.K ca Wx (sAsg g m)) := by
  refine PS.weak (ps_asg he hg hs hw h1) fun D σ H ⟨ρ, G, τ, r, s, h⟩ => ?_
  refine tE.seqFS r s h fun w G1 ρ1 H1 v x1 r1 s1 q1 h1 => ?_
  cases e : g w τ with
  | none => rw [e] at h1; exact h1.elim
  | some τ' => rw [e] at h1; exact ⟨ρ1, G1, τ, w, r1, s1, q1, τ', e, fun ρ' H' σ' x r s => h1 ρ' H' σ' x r s⟩
/-- a, b = e1, e2, two plain names -/
def sPar (i j : Nat) (m : M (List W)) : MS := fun τ G => (m τ G).toS τ fun ws G1 => match ws with
  | [w, u] => .nx ((τ.set i (some w)).set j (some u)) G1
  | _ => .bad
theorem tA.seqS {D : Ends} {σ : SSt} {ρ : List Addr} {G : GH} {τ : Sl} {H : Hp} {m : M (List W)} {k : List W → GH → RS} {Q : List V → Hp → Prop} (r : Rep X.K ca ρ G H) (s : RelS X.K ca ρ H σ τ) (h : PostS X.K ca Wx D ρ H ((m τ G).toS τ k))
    (hk : ∀ ws G1 ρ1 H1 vs, Ext ρ H ρ1 H1 → Rep X.K ca ρ1 G1 H1 → RelS X.K ca ρ1 H1 σ τ → RelWs X.K ca ρ1 H1 vs ws → PostS X.K ca Wx D ρ1 H1 (k ws G1) → Q vs H1) : tA X.K ca Wx m σ H Q :=
  ⟨ρ, G, τ, r, s, (PostS.of s r h).imp fun ws G1 ρ1 H1 x r1 q vs rv => hk ws G1 ρ1 H1 vs x r1 (s.ext r x) rv q⟩
theorem s_par {i j : Nat} {x y : Str} {a b : Expr} {ma : M (List W)} {px py pt : Pos} {kt k2 pt2} (hc : X.calm = true) (hN : X.N.Nodup) (hi : X.N[i]? = some x) (hj : X.N[j]? = some y) (hij : i ≠ j)
    (hx : X.env.scope.names.lookup x = some .local) (hy : X.env.scope.names.lookup y = some .local) (ha : PA X [a, b] (tA X.K ca Wx ma))
    (hw : swappedStores [.Tuple [.Name x px, .Name y py] kt pt] (.Tuple [a, b] k2 pt2) X.env = pure (some [x, y]))
    (hs : swapsWithSole [.Tuple [.Name x px, .Name y py] kt pt] (.Tuple [a, b] k2 pt2) pos.line X.env = pure false := by rfl) :
    PS X (.Assign [.Tuple [.Name x px, .Name y py] kt pt] (.Tuple [a, b] k2 pt2) pos) (tS X.K ca Wx (sPar i j ma)) := by
  refine PS.weak (ps_par hc hN hi hj hij hx hy ha hw hs) fun D σ H ⟨ρ, G, τ, r, s, h⟩ => ?_
  refine tA.seqS r s h fun ws G1 ρ1 H1 vs x1 r1 s1 q1 h1 => ?_
  split at h1
  · obtain ⟨v, u, rfl, qv, qu⟩ := relWs_two q1
    exact ⟨v, u, rfl, h1 ρ1 H1 _ .refl r1 ((s1.set i qv).set j qu)⟩
  · exact h1.elim
end

/-! list comprehensions whose turns raise nothing -/
def R.noEx {α : Type} : R α → R α
  | .ok a G => .ok a G
  | _ => .bad
@[simp] theorem R.noEx_ok {α : Type} (a : α) (G : GH) : (R.ok a G).noEx = .ok a G := (rfl)
def wipeS (τ : Sl) : List Nat → Sl
  | [] => τ
  | v :: vs => (wipeS τ vs).set v none
noncomputable def compF (src : Src) (g : MG) (c : M Bool) (e : M T) (τ : Sl) : List W → GH → R (List W)
  | [], G => if still src G then .ok [] G else .bad
  | w :: ws, G => if still src G then match g w τ with
      | none => .bad
      | some τ1 => ((c τ1 G).noEx).bind fun b G1 => if b then ((mF e τ1 G1).noEx).bind fun y G2 => (compF src g c e τ ws G2).bind fun ys G3 => .ok (y :: ys) G3
          else compF src g c e τ ws G1
    else .bad
noncomputable def mComp (mi : M (List W × Src)) (g : MG) (c : M Bool) (e : M T) (vs : List Nat) : M T := fun τ G => (mi τ G).bind fun p G1 =>
  if p.1.length ≤ 16777216 then (compF p.2 g c e (wipeS τ vs) p.1 G1).bind fun ys G2 => .ok (.tmp ys) G2 else .bad
def wF : WX := fun _ _ _ _ => False
def mYes : M Bool := fun _ G => .ok true G
section
variable {X : Cx} {ca : Nat → Addr} {Wx : WX} {pos : Pos}
theorem RelS.wipe {K : PySem.W.Frag} {ρ : List Addr} {H : Hp} {σ : SSt} {τ : Sl} (h : RelS K ca ρ H σ τ) : ∀ vs : List Nat, RelS K ca ρ H (L2.wipe σ vs) (wipeS τ vs)
  | [] => h
  | v :: vs => (RelS.wipe h vs).unset v
theorem Post.noEx {α : Type} {σ : SSt} {ρ : List Addr} {H : Hp} {P : α → GH → List Addr → Hp → Prop} {r : R α} (h : Post X.K ca Wx σ ρ H P r.noEx) : Post X.K ca wF σ ρ H P r := by
  cases r with
  | ok a G => exact h
  | ex c fs G => exact h.elim
  | bad => exact h
theorem Post.noExBind {α β : Type} {σ σ' : SSt} {ρ : List Addr} {H : Hp} {P : β → GH → List Addr → Hp → Prop} {r : R α} {k : α → GH → R β} (h : Post X.K ca Wx σ ρ H P (r.noEx.bind k)) :
    Post X.K ca wF σ' ρ H (fun a G1 ρ1 H1 => Post X.K ca Wx σ ρ1 H1 P (k a G1)) r := by
  cases r with
  | ok a G => exact fun ρ1 H1 x r1 => Post.later h x
  | ex c fs G => exact h.elim
  | bad => exact h
/-- the list in the making grows -/
theorem rep_app {K : PySem.W.Frag} {ρ : List Addr} {G : GH} {H : Hp} {D : Addr} {o : HO} (r : Rep K ca ρ G H) (hn : D ∉ ρ) (ht : ∀ u, H D = some u → isStat u = false) : Rep K ca ρ G (upd H D o) :=
  ⟨r.len, r.nd, fun n a u e1 e2 => objR_mono (r.obj n a u e1 e2) (fun _ _ h => h) (Stay.put ht) (upd_ne fun e => hn (e ▸ List.mem_of_getElem? e1))⟩
theorem tE.eqF {σ : SSt} {ρ : List Addr} {G G1 : GH} {τ : Sl} {H : Hp} {m : M T} {w : W} {Q : VK} (e : mF m τ G = .ok w G1) (r : Rep X.K ca ρ G H) (s : RelS X.K ca ρ H σ τ)
    (hk : ∀ ρ1 H1 v, Ext ρ H ρ1 H1 → Rep X.K ca ρ1 G1 H1 → RelS X.K ca ρ1 H1 σ τ → RelW X.K ca ρ1 H1 v w → Q v H1) : tE X.K ca Wx m σ H Q := by
  refine tE.seqF (k := fun y G2 => R.ok y G2) (P := fun y G2 _ _ => y = w ∧ G2 = G1) r s ?_ fun y G2 ρ1 H1 v x1 r1 s1 q1 h1 => ?_
  · show Post X.K ca Wx σ ρ H _ ((mF m τ G).bind fun y G2 => R.ok y G2)
    rw [e]
    exact fun _ _ _ _ => ⟨rfl, rfl⟩
  · obtain ⟨rfl, rfl⟩ := h1 ρ1 H1 .refl r1
    exact hk ρ1 H1 v x1 r1 s1 q1
theorem tT.eqB {σ : SSt} {ρ : List Addr} {G G1 : GH} {τ : Sl} {H : Hp} {m : M Bool} {b : Bool} {Q : Bool → Hp → Prop} (e : m τ G = .ok b G1) (r : Rep X.K ca ρ G H) (s : RelS X.K ca ρ H σ τ)
    (hk : ∀ ρ1 H1, Ext ρ H ρ1 H1 → Rep X.K ca ρ1 G1 H1 → RelS X.K ca ρ1 H1 σ τ → Q b H1) : tT X.K ca Wx m σ H Q := by
  refine ⟨ρ, G, τ, r, s, ?_⟩
  rw [e]
  exact fun ρ1 H1 x1 r1 => hk ρ1 H1 x1 r1 (s.ext r x1)
theorem comp_of {tgI : TI} {g : MG} {tt : TT} {te : TE} {vs : List Nat} {mi : M (List W × Src)} {mc : M Bool} {me : M T} {gg : TG}
    (hi : ∀ σ H R, tI X.K ca Wx mi σ H R → tgI σ H R) (hg : ∀ v σ H Q, tG X.K ca g v σ H Q → gg v σ H Q) (ht : ∀ σ H Q, tT X.K ca wF mc σ H Q → tt σ H Q) (he : ∀ σ H Q, tE X.K ca wF me σ H Q → te σ H Q)
    (hgw : ∀ v σ H (Q : SSt → Hp → Prop), gg v (L2.wipe σ vs) H Q → gg v (L2.wipe σ vs) H fun σ2 H2 => L2.wipe σ2 vs = L2.wipe σ vs ∧ Q σ2 H2)
    {σ : SSt} {H : Hp} {Q : VK} (h : tE X.K ca Wx (mComp mi g mc me vs) σ H Q) : tLc tgI gg tt te vs σ H Q := by
  obtain ⟨ρ, G, τ, r, s, h⟩ := h
  refine hi σ H _ ⟨ρ, G, τ, r, s, h.bind.imp fun p G1 ρ1 H1 x1 r1 h1 J hJ D hD => ?_⟩
  obtain ⟨its, src⟩ := p
  dsimp only at h1
  by_cases hz : its.length ≤ 16777216
  · rw [if_pos hz] at h1
    -- what holds between two turns
    generalize hP : (fun (t : T) (_ : GH) ρ2 H2 => ∀ v, RelT X.K ca H ρ2 H2 v t → Q v H2) = P at h1
    generalize hZ : (fun (i : Nat) (H' : Hp) => ∃ ρ' G' acc accW, Ext ρ1 H1 ρ' H' ∧ Rep X.K ca ρ' G' H' ∧ D ∉ ρ' ∧ H' D = some (.lst acc) ∧ RelWs X.K ca ρ' H' acc accW ∧ acc.length ≤ i ∧
      Post X.K ca Wx σ ρ1 H1 P ((compF src g mc me (wipeS τ vs) (its.drop i) G').bind fun ys G2 => .ok (.tmp (accW ++ ys)) G2)) = Z
    have mkZ : ∀ {i : Nat} {H' : Hp} {ρ' : List Addr} {G' : GH} {acc : List V} {accW : List W}, Ext ρ1 H1 ρ' H' → Rep X.K ca ρ' G' H' → D ∉ ρ' → H' D = some (.lst acc) → RelWs X.K ca ρ' H' acc accW → acc.length ≤ i →
        Post X.K ca Wx σ ρ1 H1 P ((compF src g mc me (wipeS τ vs) (its.drop i) G').bind fun ys G2 => .ok (.tmp (accW ++ ys)) G2) → Z i H' := by
      intro i H' ρ' G' acc accW a b c d e f g
      rw [← hZ]
      exact ⟨ρ', G', acc, accW, a, b, c, d, e, f, g⟩
    refine ⟨fun i m H' => m = its.length - i ∧ i ≤ its.length ∧ Z i H', ⟨its.length, rfl, Nat.zero_le _, mkZ (.laid hD) (r1.laid hD) (r1.fresh hD) upd_same .nil (Nat.le_refl _) ?_⟩, ?_⟩
    · exact h1
    · rintro i m H2 ⟨rfl, hi, hz2⟩
      rw [← hZ] at hz2
      obtain ⟨ρ2, G2, acc, accW, x2, r2, nD, eD, qD, lD, h2⟩ := hz2
      have s2 : RelS X.K ca ρ2 H2 σ τ := (s.ext r x1).ext r1 x2
      by_cases hlt : i < its.length
      · rw [List.drop_eq_getElem_cons hlt] at h2
        unfold compF at h2
        cases hs : still src G2 with
        | false => rw [hs] at h2; exact h2.elim
        | true =>
          rw [hs, if_pos rfl] at h2
          obtain ⟨hgo, _⟩ := hJ i ρ2 G2 H2 x2 r2 hs
          obtain ⟨go, yl⟩ := hgo its[i] (List.getElem?_eq_getElem hlt)
          refine .inr ⟨go, Z (i + 1), fun H' hw => ⟨its.length - (i + 1), by omega, rfl, hlt, hw⟩, fun y H3 hy => hgw _ _ _ _ ?_⟩
          obtain ⟨x3, r3, q3⟩ := yl y H3 hy
          cases e : g its[i] (wipeS τ vs) with
          | none => rw [e] at h2; exact h2.elim
          | some τ3 =>
            rw [e] at h2
            dsimp only at h2
            refine hg _ _ _ _ ⟨ρ2, G2, wipeS τ vs, its[i], r3, (s2.ext r2 x3).wipe vs, q3, τ3, e, fun ρ4 H4 σ4 x4 r4 s4 => ?_⟩
            have x24 := x3.trans x4
            cases ec : mc τ3 G2 with
            | ex _ _ _ => rw [ec] at h2; exact h2.elim
            | bad => rw [ec] at h2; exact h2.elim
            | ok b G5 =>
              rw [ec] at h2
              refine ht _ _ _ (tT.eqB ec r4 s4 fun ρ5 H5 x5 r5 s5 => ?_)
              have x25 := x24.trans x5
              have nD5 : D ∉ ρ5 := fun hm => (x25.new D hm).elim nD fun z => by rw [eD] at z; cases z
              have eD5 : H5 D = some (.lst acc) := x25.keep _ _ nD eD
              have q5 := relWs_ext qD r2 x25
              have x15 := x2.trans x25
              cases b with
              | false =>
                show Z (i + 1) H5
                exact mkZ x15 r5 nD5 eD5 q5 (by omega) h2
              | true =>
                show te σ4 H5 _
                cases em : mF me τ3 G5 with
                | ex _ _ _ =>
                  have h3 : Post X.K ca Wx σ ρ1 H1 P ((((mF me τ3 G5).noEx).bind fun y G2 => (compF src g mc me (wipeS τ vs) (its.drop (i + 1)) G2).bind fun ys G3 => .ok (y :: ys) G3).bind fun ys G2 => .ok (.tmp (accW ++ ys)) G2) := h2
                  rw [em] at h3; exact h3.elim
                | bad =>
                  have h3 : Post X.K ca Wx σ ρ1 H1 P ((((mF me τ3 G5).noEx).bind fun y G2 => (compF src g mc me (wipeS τ vs) (its.drop (i + 1)) G2).bind fun ys G3 => .ok (y :: ys) G3).bind fun ys G2 => .ok (.tmp (accW ++ ys)) G2) := h2
                  rw [em] at h3; exact h3.elim
                | ok w G6 =>
                  have h3 : Post X.K ca Wx σ ρ1 H1 P ((((mF me τ3 G5).noEx).bind fun y G2 => (compF src g mc me (wipeS τ vs) (its.drop (i + 1)) G2).bind fun ys G3 => .ok (y :: ys) G3).bind fun ys G2 => .ok (.tmp (accW ++ ys)) G2) := h2
                  rw [em] at h3
                  have h4 : Post X.K ca Wx σ ρ1 H1 P ((compF src g mc me (wipeS τ vs) (its.drop (i + 1)) G6).bind fun ys G2 => .ok (.tmp ((accW ++ [w]) ++ ys)) G2) := by
                    cases ef : compF src g mc me (wipeS τ vs) (its.drop (i + 1)) G6 with
                    | ok ys G7 =>
                      have h5 : Post X.K ca Wx σ ρ1 H1 P (((compF src g mc me (wipeS τ vs) (its.drop (i + 1)) G6).bind fun ys G3 => .ok (w :: ys) G3).bind fun ys G2 => .ok (.tmp (accW ++ ys)) G2) := h3
                      rw [ef] at h5
                      show Post X.K ca Wx σ ρ1 H1 P (.ok (.tmp ((accW ++ [w]) ++ ys)) G7)
                      rw [List.append_assoc]
                      exact h5
                    | ex _ _ _ =>
                      have h5 : Post X.K ca Wx σ ρ1 H1 P (((compF src g mc me (wipeS τ vs) (its.drop (i + 1)) G6).bind fun ys G3 => .ok (w :: ys) G3).bind fun ys G2 => .ok (.tmp (accW ++ ys)) G2) := h3
                      rw [ef] at h5
                      exact h5
                    | bad =>
                      have h5 : Post X.K ca Wx σ ρ1 H1 P (((compF src g mc me (wipeS τ vs) (its.drop (i + 1)) G6).bind fun ys G3 => .ok (w :: ys) G3).bind fun ys G2 => .ok (.tmp (accW ++ ys)) G2) := h3
                      rw [ef] at h5
                      exact h5
                  refine he _ _ _ (tE.eqF em r5 s5 fun ρ6 H6 v x6 r6 s6 q6 => ?_)
                  have nD6 : D ∉ ρ6 := fun hm => (x6.new D hm).elim nD5 fun z => by rw [eD5] at z; cases z
                  have eD6 : H6 D = some (.lst acc) := x6.keep _ _ nD5 eD5
                  have q7 := relWs_ext q5 r5 x6
                  have nt := ns_lst eD6
                  refine ⟨acc, eD6, by rw [sizeLine_eq]; omega, mkZ (acc := acc ++ [v]) (accW := accW ++ [w]) ?_ (rep_app r6 nD6 nt) nD6 upd_same ?_ (by rw [List.length_append, List.length_singleton]; omega) h4⟩
                  · have x16 := x15.trans x6
                    refine ⟨x16.pre, x16.new, fun b o hb e => ?_⟩
                    have nb : b ≠ D := fun z => by rw [z, hD] at e; cases e
                    rw [upd_ne nb]
                    exact x16.keep b o hb e
                  · exact relWs_app (paired_imp q7 fun _ _ z => z.mono (fun _ _ e => e) (Stay.put nt)) (.cons (q6.mono (fun _ _ e => e) (Stay.put nt)) .nil)
      · have e : i = its.length := by omega
        subst e
        rw [List.drop_length] at h2
        unfold compF at h2
        cases hs : still src G2 with
        | false => rw [hs] at h2; exact h2.elim
        | true =>
          rw [hs, if_pos rfl] at h2
          obtain ⟨_, hst⟩ := hJ its.length ρ2 G2 H2 x2 r2 hs
          refine .inl ⟨hst (Nat.le_refl _), ?_⟩
          have h3 := h2 ρ2 H2 x2 r2
          rw [← hP] at h3
          refine h3 (.ref D) ?_
          refine RelT.back (ρ := ρ1) (H := H1) ?_ x1 x2
          exact ⟨D, acc, rfl, nD, hD, eD, by rw [List.append_nil]; exact qD⟩
  · rw [if_neg hz] at h1
    exact h1.elim
end
end Sy
set_option Elab.async false
set_option linter.all false
set_option maxRecDepth 100000
set_option maxHeartbeats 4000000
namespace Sy
open PySem PySem.Spec PyProof.Rows L2

/-! a comprehension's own names -/
def Own (vs : List Nat) (gg : TG) : Prop := ∀ v σ H (Q : SSt → Hp → Prop), gg v σ H Q → gg v σ H fun σ2 H2 => L2.wipe σ2 vs = L2.wipe σ vs ∧ Q σ2 H2
def OwnS (vs : List Nat) (gg : TGs) : Prop := ∀ v σ H (Q : SSt → Hp → Prop), gg v σ H Q → gg v σ H fun σ2 H2 => L2.wipe σ2 vs = L2.wipe σ vs ∧ Q σ2 H2
theorem wipe_len (σ : SSt) (vs : List Nat) : (L2.wipe σ vs).length = σ.length := wipe_length σ vs
theorem wipe_set {i : Nat} {x : Option V} : ∀ {vs : List Nat} {σ : SSt}, i ∈ vs → L2.wipe (σ.set i x) vs = L2.wipe σ vs
  | v :: vs, σ, h => by
    show (L2.wipe (σ.set i x) vs).set v none = (L2.wipe σ vs).set v none
    by_cases hi : i ∈ vs
    · rw [wipe_set hi]
    · have e : i = v := by
        rcases List.mem_cons.mp h with e | e
        · exact e
        · exact absurd e hi
      subst e
      have aux : ∀ (us : List Nat) (σ : SSt), i ∉ us → L2.wipe (σ.set i x) us = (L2.wipe σ us).set i x := by
        intro us
        induction us with
        | nil => intro σ _; rfl
        | cons u us ih =>
          intro σ hu
          show (L2.wipe (σ.set i x) us).set u none = ((L2.wipe σ us).set u none).set i x
          rw [ih σ fun z => hu (List.mem_cons_of_mem _ z)]
          exact List.set_comm _ _ fun z => hu (by rw [z]; exact List.mem_cons_self)
      rw [aux vs σ hi, List.set_set]
theorem wipe_wipe {σ : SSt} {us : List Nat} : ∀ {vs : List Nat}, (∀ v ∈ vs, v ∈ us) → L2.wipe (L2.wipe σ vs) us = L2.wipe σ us
  | [], _ => rfl
  | v :: vs, h => by
    show L2.wipe ((L2.wipe σ vs).set v none) us = L2.wipe σ us
    rw [wipe_set (h v List.mem_cons_self), wipe_wipe fun u hu => h u (List.mem_cons_of_mem _ hu)]
theorem own_name {vs : List Nat} {i : Nat} (h : i ∈ vs) : Own vs (gName i) := fun v σ H Q q => ⟨wipe_set h, q⟩
theorem own_nil {vs : List Nat} : OwnS vs gNil := fun v σ H Q q => ⟨q.1, rfl, q.2⟩
theorem TG.mono_name {i : Nat} {v : V} {σ : SSt} {H : Hp} {Q Q' : SSt → Hp → Prop} (h : gName i v σ H Q) (f : ∀ σ H, Q σ H → Q' σ H) : gName i v σ H Q' := f _ _ h
theorem own_cons {vs : List Nat} {t : TG} {u : TGs} (h1 : Own vs t) (hm : ∀ v σ H (Q Q' : SSt → Hp → Prop), (∀ σ H, Q σ H → Q' σ H) → t v σ H Q → t v σ H Q') (hmu : ∀ v σ H (Q Q' : SSt → Hp → Prop), (∀ σ H, Q σ H → Q' σ H) → u v σ H Q → u v σ H Q') (h2 : OwnS vs u) : OwnS vs (gCons t u) := by
  rintro ws σ H Q ⟨v, r, e, q⟩
  refine ⟨v, r, e, hm _ _ _ _ _ (fun σ1 H1 h => ?_) (h1 v σ H _ q)⟩
  obtain ⟨e1, q1⟩ := h
  exact hmu _ _ _ _ _ (fun σ2 H2 h => ⟨h.1.trans e1, h.2⟩) (h2 r σ1 H1 Q q1)
theorem own_tup {K : PySem.W.Frag} {n : Nat} {vs : List Nat} {u : TGs} (h : OwnS vs u) : Own vs (gTup K n u) := by
  rintro v σ H Q ⟨a, xs, e, hs, hl, q⟩
  exact ⟨a, xs, e, hs, hl, h xs σ H Q q⟩
theorem mono_name {i : Nat} : ∀ v σ H (Q Q' : SSt → Hp → Prop), (∀ σ H, Q σ H → Q' σ H) → gName i v σ H Q → gName i v σ H Q' := fun _ _ _ _ _ f q => f _ _ q
theorem mono_nil : ∀ v σ H (Q Q' : SSt → Hp → Prop), (∀ σ H, Q σ H → Q' σ H) → gNil v σ H Q → gNil v σ H Q' := fun _ _ _ _ _ f q => ⟨q.1, f _ _ q.2⟩
theorem mono_cons {t : TG} {u : TGs} (hm : ∀ v σ H (Q Q' : SSt → Hp → Prop), (∀ σ H, Q σ H → Q' σ H) → t v σ H Q → t v σ H Q') (hmu : ∀ v σ H (Q Q' : SSt → Hp → Prop), (∀ σ H, Q σ H → Q' σ H) → u v σ H Q → u v σ H Q') :
    ∀ v σ H (Q Q' : SSt → Hp → Prop), (∀ σ H, Q σ H → Q' σ H) → gCons t u v σ H Q → gCons t u v σ H Q' := by
  rintro ws σ H Q Q' f ⟨v, r, e, q⟩
  exact ⟨v, r, e, hm _ _ _ _ _ (fun _ _ h => hmu _ _ _ _ _ f h) q⟩
section
variable {X : Cx} {ca : Nat → Addr} {Wx : WX} {pos : Pos}
def Tgt (K : PySem.W.Frag) (ca : Nat → Addr) (gg : TG) (g : MG) : Prop := ∀ v σ H Q, tG K ca g v σ H Q → gg v σ H Q
def TgtS (K : PySem.W.Frag) (ca : Nat → Addr) (gg : TGs) (g : List W → Sl → Option Sl) : Prop := ∀ v σ H Q, tGs K ca g v σ H Q → gg v σ H Q
theorem tgt_name {K : PySem.W.Frag} {i : Nat} : Tgt K ca (gName i) (gN i) := fun v σ H Q ⟨ρ, G, τ, w, r, s, q, τ', e, h⟩ => by
  cases e
  exact h ρ H _ .refl r (s.set i q)
theorem tgt_nil {K : PySem.W.Frag} : TgtS K ca gNil gE := fun vs σ H Q ⟨ρ, G, τ, ws, r, s, q, τ', e, h⟩ => by
  cases q with
  | nil => cases e; exact ⟨rfl, h ρ H σ .refl r s⟩
  | cons _ _ => cases e
theorem tgt_cons {K : PySem.W.Frag} {gg : TG} {g : MG} {ggs : TGs} {gs : List W → Sl → Option Sl} (h1 : Tgt K ca gg g) (h2 : TgtS K ca ggs gs) : TgtS K ca (gCons gg ggs) (gC g gs) := fun vs σ H Q ⟨ρ, G, τ, ws, r, s, q, τ', e, h⟩ => by
  cases ws with
  | nil => cases e
  | cons w ws =>
    have e : (g w τ).bind (gs ws) = some τ' := e
    cases vs with
    | nil => cases q
    | cons v vs =>
      have q0 : RelW K ca ρ H v w := by cases q; assumption
      have qt : RelWs K ca ρ H vs ws := by cases q; assumption
      cases e1 : g w τ with
      | none => rw [e1] at e; cases e
      | some τ1 =>
        rw [e1] at e
        refine ⟨v, vs, rfl, h1 _ _ _ _ ⟨ρ, G, τ, w, r, s, q0, τ1, e1, fun ρ1 H1 σ1 x1 r1 s1 => ?_⟩⟩
        exact h2 _ _ _ _ ⟨ρ1, G, τ1, ws, r1, s1, relWs_ext qt r x1, τ', e, fun ρ2 H2 σ2 x2 r2 s2 => h ρ2 H2 σ2 (x1.trans x2) r2 s2⟩
theorem tgt_tup {K : PySem.W.Frag} {n : Nat} {ggs : TGs} {gs : List W → Sl → Option Sl} (h : TgtS K ca ggs gs) (hl : ∀ ws τ τ', gs ws τ = some τ' → ws.length = n) : Tgt K ca (gTup K n ggs) (gT gs) := fun v σ H Q ⟨ρ, G, τ, w, r, s, q, τ', e, hq⟩ => by
  cases w with
  | tup ws =>
    obtain ⟨a, vs, rfl, hv, qs⟩ := relW_tup q
    exact ⟨a, vs, rfl, hv, qs.length.trans (hl ws τ τ' e), h _ _ _ _ ⟨ρ, G, τ, ws, r, s, qs, τ', e, hq⟩⟩
  | _ => cases e
theorem ts_nil : PTs X [] (tT X.K ca Wx mYes) := ⟨fun pins s σ H Q I ⟨ρ, G, τ, r, sl, h⟩ => pts_nil.run pins s σ H Q I (h ρ H .refl r)⟩
theorem ts_one {c : Expr} {m : M Bool} (h : PT X c (tT X.K ca Wx m)) : PTs X [c] (tT X.K ca Wx m) := pts_one h
/-- [elt for target in iter if ..] -/
theorem s_lc {elt tg iter : Expr} {ifs : List Expr} {scope : Scope} {own : List (Str × Nat)} {mi : M (List W × Src)} {gg : TG} {g : MG} {mc : M Bool} {me : M T} (hc : X.calm = true) (hN : X.N.Nodup) (hi : PI X tg iter (tI X.K ca Wx mi)) (ok : BlkOk X.N X.env.scope scope own)
    (hg : ∀ (s : Shared) (H : Hp) (C : Addr) (cl : List (Str × Addr)) (fp : List Addr), PG (X.blk s H scope (compEnvC scope cl C X.env) fp) tg gg) (hT : Tgt X.K ca gg g) (hO : Own (own.map (·.2)) gg)
    (ht : ∀ (s : Shared) (H : Hp) (C : Addr) (cl : List (Str × Addr)) (fp : List Addr), PTs (X.blk s H scope (compEnvC scope cl C X.env) fp) ifs (tT X.K ca wF mc))
    (he : ∀ (s : Shared) (H : Hp) (C : Addr) (cl : List (Str × Addr)) (fp : List Addr), PE (X.blk s H scope (compEnvC scope cl C X.env) fp) elt (tE X.K ca wF me)) (hs : ∀ x, foldedSetIterable iter X.env x = pure x := by intro _; rfl) :
    PE X (.ListComp elt [⟨tg, iter, ifs, 0⟩] scope pos) (tE X.K ca Wx (mComp mi g mc me (own.map (·.2)))) :=
  PE.weak (pe_lc hc hN hi ok hg ht he hs) fun σ H Q h => comp_of (fun _ _ _ h => h) hT (fun _ _ _ h => h) (fun _ _ _ h => h) (fun v σ H Q q => by
    have q' := hO v _ H Q q
    rwa [wipe_wipe fun v hv => hv] at q') h
theorem s_setLc {i : Nat} {y : Str} {py : Pos} {elt tg iter : Expr} {ifs : List Expr} {scope : Scope} {own : List (Str × Nat)} {spos : Pos} {mi : M (List W × Src)} {gg : TG} {g : MG} {mc : M Bool} {me : M T} (hc : X.calm = true) (hN : X.N.Nodup) (hy : X.N[i]? = some y) (hyl : X.env.scope.names.lookup y = some .local)
    (hsw : swapsWith (.ListComp elt [⟨tg, iter, ifs, 0⟩] scope pos) (some (.Name y py)) spos.line X.env = pure true) (hi : PI X tg iter (tI X.K ca Wx mi)) (ok : BlkOk X.N X.env.scope scope own)
    (hg : ∀ (s : Shared) (H : Hp) (C : Addr) (cl : List (Str × Addr)) (fp : List Addr), PG (X.blk s H scope (compEnvC scope cl C X.env) fp) tg gg) (hT : Tgt X.K ca gg g) (hO : Own (own.map (·.2)) gg)
    (ht : ∀ (s : Shared) (H : Hp) (C : Addr) (cl : List (Str × Addr)) (fp : List Addr), PTs (X.blk s H scope (compEnvC scope cl C X.env) fp) ifs (tT X.K ca wF mc))
    (he : ∀ (s : Shared) (H : Hp) (C : Addr) (cl : List (Str × Addr)) (fp : List Addr), PE (X.blk s H scope (compEnvC scope cl C X.env) fp) elt (tE X.K ca wF me)) (hs : ∀ x, foldedSetIterable iter X.env x = pure x := by intro _; rfl) :
    PS X (.Assign [.Name y py] (.ListComp elt [⟨tg, iter, ifs, 0⟩] scope pos) spos) (tS X.K ca Wx (sSet i (mComp mi g mc me (own.map (·.2))))) :=
  PS.weak (ps_setLc hc hN hy hyl hsw hi ok hg ht he hs) fun D σ H h => by
    have h' := set_of (X := X) h
    exact comp_of (fun _ _ _ h => h) hT (fun _ _ _ h => h) (fun _ _ _ h => h) (fun v σ H Q q => by
      have q' := hO v _ H Q q
      rwa [wipe_wipe fun v hv => hv] at q') h'
end

/-! defs -/
section
variable (K : PySem.W.Frag) (ca : Nat → Addr)
/-- what a def promises: it does what m does -/
def spM (n : Nat) (m : List W → GH → R W) : Sp := fun vs H Q E => vs.length = n ∧ ∃ ρ G ws, Rep K ca ρ G H ∧ RelWs K ca ρ H vs ws ∧ Post K ca (fun c d _ H => E c d H) [] ρ H (fun w _ ρ' H' => ∀ v, RelW K ca ρ' H' v w → Q v H') (m ws G)
end
def mDef (n : Nat) (mb : MS) : List W → GH → R W := fun ws G => match mb (ws.map some ++ List.replicate (n - ws.length) none) G with
  | .nx _ G' => .ok .non G'
  | .rt w G' => .ok w G'
  | .ex c fs _ G' => .ex c fs G'
  | _ => .bad
theorem relS_start {K : PySem.W.Frag} {ca : Nat → Addr} {ρ : List Addr} {H : Hp} {N : List Str} {vs : List V} {ws : List W} (q : RelWs K ca ρ H vs ws) : RelS K ca ρ H (L2.start N vs) (ws.map some ++ List.replicate (N.length - ws.length) none) := by
  have hl := q.length
  unfold L2.start
  refine ⟨by simp [hl], fun i w e => ?_⟩
  by_cases hi : i < ws.length
  · rw [List.getElem?_append_left (by simpa using hi), List.getElem?_map] at e
    cases e0 : ws[i]? with
    | none => rw [e0] at e; cases e
    | some u =>
      rw [e0] at e
      cases e
      obtain ⟨v, e1, q1⟩ := relWs_get q e0
      exact ⟨v, by rw [List.getElem?_append_left (by simp; omega), List.getElem?_map, e1]; rfl, q1⟩
  · rw [List.getElem?_append_right (by simpa using hi), List.getElem?_replicate] at e
    split at e <;> cases e
section
variable {P : Program} {w : World} {K : PySem.W.Frag} {mg : Str → Option Value} {base : Heap} {ca : Nat → Addr}
/-- a def of the module that does what m does; dws: the values of defaults that a call leaves out -/
structure Callable (P : Program) (w : World) (K : PySem.W.Frag) (mg : Str → Option Value) (base : Heap) (ca : Nat → Addr) (k : Nat) (x : Str) (ps : List Str) (dws : List W) (m : List W → GH → R W) : Prop where
  ex : ∃ (f : Addr) (fd : FuncData) (dvs : List V) (ds : List Value), mg x = some (.ref f) ∧ PySem.W.keepIn K (.ref f) = true ∧ Binds K fd ps ds ∧ Vals dvs ds ∧ (∀ ρ H, RelWs K ca ρ H dvs dws) ∧ FnOk P w K mg base (L2N.CX P w) k f fd ps (spM K ca ps.length m)
theorem Callable.mono {k k' : Nat} {x : Str} {ps : List Str} {dws : List W} {m : List W → GH → R W} (C : Callable P w K mg base ca k x ps dws m) (h : k ≤ k') : Callable P w K mg base ca k' x ps dws m := by
  obtain ⟨f, fd, dvs, ds, a, b, c, d, e, g⟩ := C.ex
  exact ⟨f, fd, dvs, ds, a, b, c, d, e, g.mono h⟩
end
def mCall (m : List W → GH → R W) (dws : List W) (ma : M (List W)) : M T := fun τ G => (ma τ G).bind fun ws G1 => (m (ws ++ dws) G1).bind fun w G2 => .ok (.val w) G2
section
variable {X : Cx} {ca : Nat → Addr} {Wx : WX} {pos : Pos}
theorem call_in {n : Nat} {m : List W → GH → R W} {dws : List W} {dvs : List V} {ma : M (List W)} {σ : SSt} {H : Hp} {Q : VK} (hd : ∀ ρ H, RelWs X.K ca ρ H dvs dws) (hn : ∀ ws τ G G1, ma τ G = .ok ws G1 → (ws ++ dws).length = n)
    (h : tE X.K ca Wx (mCall m dws ma) σ H Q) : tA X.K ca Wx ma σ H fun vs H1 => spM X.K ca n m (vs ++ dvs) H1 Q (WE Wx σ) := by
  obtain ⟨ρ, G, τ, r, s, h⟩ := h
  refine ⟨ρ, G, τ, r, s, ?_⟩
  cases e : ma τ G with
  | ok ws G1 =>
    have h' : Post X.K ca Wx σ ρ H (fun t _ ρ' H' => ∀ v, RelT X.K ca H ρ' H' v t → Q v H') ((m (ws ++ dws) G1).bind fun w G2 => .ok (.val w) G2) := by
      unfold mCall at h
      rw [e] at h
      exact h
    intro ρ1 H1 x1 r1 vs qs
    have qs2 := relWs_app qs (hd ρ1 H1)
    refine ⟨qs2.length.trans (hn ws τ G G1 e), ρ1, G1, ws ++ dws, r1, qs2, ?_⟩
    have h2 := Post.later h' x1
    cases em : m (ws ++ dws) G1 with
    | ok w G2 => rw [em] at h2; exact fun ρ2 H2 x2 r2 v q => h2 ρ2 H2 x2 r2 v q
    | ex c fs G2 => rw [em] at h2; exact h2
    | bad => rw [em] at h2; exact h2
  | ex c fs G1 => unfold mCall at h; rw [e] at h; exact h
  | bad => unfold mCall at h; rw [e] at h; exact h
theorem s_call {x : Str} {p : Pos} {k : Nat} {ps : List Str} {dws : List W} {m : List W → GH → R W} {e : Expr} {es : List Expr} {ma : M (List W)} (C : Callable X.prog X.w X.K X.mg X.base ca k x ps dws m) (hr : Room k X.A) (hg : Gl X x) (tk : L2N.Takes X Wx)
    (ha : PA X (e :: es) (tA X.K ca Wx ma)) (hn : ∀ ws τ G G1, ma τ G = .ok ws G1 → (ws ++ dws).length = ps.length) (hdb : (x == ("__debug__" : Str)) = false := by decide)
    (he : starEach (e :: es) X.env = (false, eval e X.env) :: starEach es X.env := by rfl) (hpl : (backTo pos (starEach es X.env)).any (·.1) = false := by rfl) :
    PE X (.Call (.Name x p) (e :: es) [] pos) (tE X.K ca Wx (mCall m dws ma)) := by
  obtain ⟨f, fd, dvs, ds, gm, kp, b, hv, hd, F⟩ := C.ex
  exact PE.weak (pe_callSD F hr hg gm kp b hv (fun σ => L2N.passAt tk σ) ha hdb he hpl) fun σ H Q h => call_in hd hn h
theorem len_nil : ∀ ws τ G G1, mNil τ G = .ok ws G1 → ws.length = 0 := fun ws τ G G1 e => by cases e; rfl
theorem len_cons {m : M T} {ms : M (List W)} {n : Nat} (h : ∀ ws τ G G1, ms τ G = .ok ws G1 → ws.length = n) : ∀ ws τ G G1, mCons m ms τ G = .ok ws G1 → ws.length = n + 1 := fun ws τ G G1 e => by
  unfold mCons at e
  cases e1 : (m τ G).bind force with
  | ok w G2 =>
    rw [e1] at e
    cases e2 : ms τ G2 with
    | ok us G3 =>
      have e' : ((ms τ G2).bind fun ws G2 => R.ok (w :: ws) G2) = R.ok ws G1 := e
      rw [e2] at e'
      cases e'
      rw [List.length_cons, h us τ G2 _ e2]
    | ex _ _ _ =>
      have e' : ((ms τ G2).bind fun ws G2 => R.ok (w :: ws) G2) = R.ok ws G1 := e
      rw [e2] at e'; cases e'
    | bad =>
      have e' : ((ms τ G2).bind fun ws G2 => R.ok (w :: ws) G2) = R.ok ws G1 := e
      rw [e2] at e'; cases e'
  | ex _ _ _ => rw [e1] at e; cases e
  | bad => rw [e1] at e; cases e
theorem len_dws {ma : M (List W)} {dws : List W} {n k : Nat} (h : ∀ ws τ G G1, ma τ G = .ok ws G1 → ws.length = n) (hk : n + dws.length = k) : ∀ ws τ G G1, ma τ G = .ok ws G1 → (ws ++ dws).length = k := fun ws τ G G1 e => by
  rw [List.length_append, h ws τ G G1 e, hk]

/-! built-ins -/
def SaysC (X : Cx) (ca : Nat → Addr) (r : List V → Hp → VK → Prop) (f : List T → GH → R T) : Prop :=
  ∀ (Wx : WX) (σ : SSt) (ρ : List Addr) (G : GH) (H H0 : Hp) (xs : List V) (ts : List T) (Q : VK), Rep X.K ca ρ G H → RelTs X.K ca H0 ρ H xs ts →
    Post X.K ca Wx σ ρ H (fun t _ ρ' H' => ∀ v, RelT X.K ca H ρ' H' v t → Q v H') (f ts G) → r xs H Q
def mBi (f : List T → GH → R T) (ma : M (List T)) : M T := fun τ G => (ma τ G).bind f
theorem bi_in {r : List V → Hp → VK → Prop} {f : List T → GH → R T} (hs : SaysC X ca r f) {ma : M (List T)} {σ : SSt} {H : Hp} {Q : VK} (h : tE X.K ca Wx (mBi f ma) σ H Q) : tCB r (tB X.K ca Wx ma) σ H Q := by
  obtain ⟨ρ, G, τ, r0, s0, h⟩ := h
  refine tB.seq r0 s0 h fun ts G1 ρ1 H1 vs x1 r1 s1 q1 h1 => ?_
  exact hs Wx σ ρ1 G1 H1 H vs ts Q r1 q1 (h1.imp fun t G' ρ' H' x' _ q v rv => q v (rv.back x1 x'))
theorem s_bi {x : Str} {id : String} {p : Pos} {r : List V → Hp → VK → Prop} {f : List T → GH → R T} {e : Expr} {es : List Expr} {ma : M (List T)} (hc : CallR X (.builtin id) r) (hs : SaysC X ca r f) (hg : Gl X x) (hm : X.mg x = none) (hv : bootBuiltins x = some (.builtin id)) (ha : PA X (e :: es) (tB X.K ca Wx ma))
    (hn : x ≠ "__name__" := by decide) (hdb : (x == ("__debug__" : Str)) = false := by decide) (he : starEach (e :: es) X.env = (false, eval e X.env) :: starEach es X.env := by rfl) (hpl : (backTo pos (starEach es X.env)).any (·.1) = false := by rfl) :
    PE X (.Call (.Name x p) (e :: es) [] pos) (tE X.K ca Wx (mBi f ma)) := PE.weak (pe_callB hc hg hm hv ha hn hdb he hpl) fun _ _ _ h => bi_in hs h
theorem s_bty {x : Str} {id : String} {p : Pos} {r : List V → Hp → VK → Prop} {f : List T → GH → R T} {e : Expr} {es : List Expr} {ma : M (List T)} (hc : CallR X (.type id) r) (hs : SaysC X ca r f) (hg : Gl X x) (hm : X.mg x = none) (hv : bootBuiltins x = some (.type id)) (ha : PA X (e :: es) (tB X.K ca Wx ma))
    (hn : x ≠ "__name__" := by decide) (hdb : (x == ("__debug__" : Str)) = false := by decide) (he : starEach (e :: es) X.env = (false, eval e X.env) :: starEach es X.env := by rfl) (hpl : (backTo pos (starEach es X.env)).any (·.1) = false := by rfl) :
    PE X (.Call (.Name x p) (e :: es) [] pos) (tE X.K ca Wx (mBi f ma)) := PE.weak (pe_callTy hc hg hm hv ha hn hdb he hpl) fun _ _ _ h => bi_in hs h
end
end Sy
set_option Elab.async false
set_option linter.all false
set_option maxRecDepth 100000
set_option maxHeartbeats 4000000
namespace Sy
open PySem PySem.Spec PyProof.Rows L2

section
variable {X : Cx} {ca : Nat → Addr} {Wx : WX} {pos : Pos}
/-! len -/
def fLen (ts : List T) (G : GH) : R T := match ts with
  | [.val (.str x)] => if x.length ≤ 16777216 then .ok (.val (.int x.length)) G else .bad
  | [.val (.tup ws)] => .ok (.val (.int ws.length)) G
  | [t] => match rdl t G with
    | some ws => .ok (.val (.int ws.length)) G
    | none => .bad
  | _ => .bad
theorem says_len : SaysC X ca (fun xs H Q => ∃ x n, xs = [x] ∧ LenV X.K x H n ∧ Q (.int n) H) fLen := by
  intro Wx σ ρ G H H0 xs ts Q r q h
  unfold fLen at h
  split at h
  · obtain ⟨v, rfl, qv⟩ := relTs_one q
    cases qv
    split at h
    · rename_i z
      exact ⟨_, _, rfl, ⟨by rw [sizeLine_eq]; exact z, rfl⟩, h ρ H .refl r _ (.int _)⟩
    · exact h.elim
  · obtain ⟨v, rfl, qv⟩ := relTs_one q
    obtain ⟨a, vs, rfl, hv, qs⟩ := relW_tup qv
    exact ⟨_, _, rfl, .inr ⟨vs, hv, rfl⟩, h ρ H .refl r _ (by rw [qs.length]; exact .int _)⟩
  · rename_i t _ _
    obtain ⟨v, rfl, qv⟩ := relTs_one q
    cases e : rdl t G with
    | none => rw [e] at h; exact h.elim
    | some ws =>
      rw [e] at h
      obtain ⟨a, vs, rfl, hv, qs⟩ := rdl_of r qv e
      exact ⟨_, _, rfl, .inl ⟨vs, hv, rfl⟩, h ρ H .refl r _ (by rw [qs.length]; exact .int _)⟩
  · exact h.elim
/-! all, any, sum -/
def blsW : List W → Option (List Bool)
  | [] => some []
  | w :: ws => match w with
    | .bl b => (blsW ws).map (b :: ·)
    | _ => none
def intsW : List W → Option (List Int)
  | [] => some []
  | w :: ws => match w with
    | .int b => (intsW ws).map (b :: ·)
    | _ => none
theorem blsW_of {K : PySem.W.Frag} {ρ : List Addr} {H : Hp} : ∀ {vs : List V} {ws : List W} {bs : List Bool}, RelWs K ca ρ H vs ws → blsW ws = some bs → vs = bs.map V.bl
  | _, [], _, .nil, e => by cases e; rfl
  | _, w :: ws, bs, .cons q t, e => by
    unfold blsW at e
    cases w with
    | bl b =>
      cases e2 : blsW ws with
      | none => dsimp only at e; rw [e2] at e; cases e
      | some cs =>
        dsimp only at e
        rw [e2] at e
        cases e
        cases q
        rw [blsW_of t e2]
        rfl
    | _ => cases e
theorem intsW_of {K : PySem.W.Frag} {ρ : List Addr} {H : Hp} : ∀ {vs : List V} {ws : List W} {bs : List Int}, RelWs K ca ρ H vs ws → intsW ws = some bs → vs = bs.map V.int
  | _, [], _, .nil, e => by cases e; rfl
  | _, w :: ws, bs, .cons q t, e => by
    unfold intsW at e
    cases w with
    | int b =>
      cases e2 : intsW ws with
      | none => dsimp only at e; rw [e2] at e; cases e
      | some cs =>
        dsimp only at e
        rw [e2] at e
        cases e
        cases q
        rw [intsW_of t e2]
        rfl
    | _ => cases e
def fAll (ts : List T) (G : GH) : R T := match ts with
  | [t] => match (rdl t G).bind blsW with
    | some bs => .ok (.val (.bl (bs.all id))) G
    | none => .bad
  | _ => .bad
def fAny (ts : List T) (G : GH) : R T := match ts with
  | [t] => match (rdl t G).bind blsW with
    | some bs => .ok (.val (.bl (bs.any id))) G
    | none => .bad
  | _ => .bad
def fSum (ts : List T) (G : GH) : R T := match ts with
  | [t] => match (rdl t G).bind intsW with
    | some bs => .ok (.val (.int bs.sum)) G
    | none => .bad
  | _ => .bad
theorem says_all : SaysC X ca (rAll X.K) fAll := by
  intro Wx σ ρ G H H0 xs ts Q r q h
  unfold fAll at h
  split at h
  · rename_i t
    obtain ⟨v, rfl, qv⟩ := relTs_one q
    cases e : rdl t G with
    | none => rw [e] at h; exact h.elim
    | some ws =>
      cases e2 : blsW ws with
      | none => rw [e, Option.bind_some, e2] at h; exact h.elim
      | some bs =>
        rw [e, Option.bind_some, e2] at h
        obtain ⟨a, vs, rfl, hv, qs⟩ := rdl_of r qv e
        exact ⟨a, bs, rfl, by rw [← blsW_of qs e2]; exact hv, h ρ H .refl r _ (.bl _)⟩
  · exact h.elim
theorem says_any : SaysC X ca (rAny X.K) fAny := by
  intro Wx σ ρ G H H0 xs ts Q r q h
  unfold fAny at h
  split at h
  · rename_i t
    obtain ⟨v, rfl, qv⟩ := relTs_one q
    cases e : rdl t G with
    | none => rw [e] at h; exact h.elim
    | some ws =>
      cases e2 : blsW ws with
      | none => rw [e, Option.bind_some, e2] at h; exact h.elim
      | some bs =>
        rw [e, Option.bind_some, e2] at h
        obtain ⟨a, vs, rfl, hv, qs⟩ := rdl_of r qv e
        exact ⟨a, bs, rfl, by rw [← blsW_of qs e2]; exact hv, h ρ H .refl r _ (.bl _)⟩
  · exact h.elim
theorem says_sum : SaysC X ca (rSum X.K) fSum := by
  intro Wx σ ρ G H H0 xs ts Q r q h
  unfold fSum at h
  split at h
  · rename_i t
    obtain ⟨v, rfl, qv⟩ := relTs_one q
    cases e : rdl t G with
    | none => rw [e] at h; exact h.elim
    | some ws =>
      cases e2 : intsW ws with
      | none => rw [e, Option.bind_some, e2] at h; exact h.elim
      | some bs =>
        rw [e, Option.bind_some, e2] at h
        obtain ⟨a, vs, rfl, hv, qs⟩ := rdl_of r qv e
        exact ⟨a, bs, rfl, by rw [← intsW_of qs e2]; exact hv, h ρ H .refl r _ (.int _)⟩
  · exact h.elim
/-! int, list, tuple, divmod -/
def fInt (ts : List T) (G : GH) : R T := match ts with
  | [.val (.int i)] => .ok (.val (.int i)) G
  | [.val (.bl b)] => .ok (.val (.int (if b then 1 else 0))) G
  | _ => .bad
theorem says_int : SaysC X ca (fun xs H Q => (∃ i, xs = [.int i] ∧ Q (.int i) H) ∨ ∃ k, xs = [.bl k] ∧ Q (.int (if k then 1 else 0)) H) fInt := by
  intro Wx σ ρ G H H0 xs ts Q r q h
  unfold fInt at h
  split at h
  · obtain ⟨v, rfl, qv⟩ := relTs_one q
    cases qv
    exact .inl ⟨_, rfl, h ρ H .refl r _ (.int _)⟩
  · obtain ⟨v, rfl, qv⟩ := relTs_one q
    cases qv
    exact .inr ⟨_, rfl, h ρ H .refl r _ (.int _)⟩
  · exact h.elim
def fList (ts : List T) (G : GH) : R T := match ts with
  | [.val (.tup ws)] => .ok (.tmp ws) G
  | [t] => match rdl t G with
    | some ws => .ok (.tmp ws) G
    | none => .bad
  | _ => .bad
theorem says_list : SaysC X ca (fun xs H Q => ∃ p ys, xs = [.ref p] ∧ (SqL X.K H p ys ∨ SqT X.K H p ys) ∧ ∀ l, H l = none → Q (.ref l) (upd H l (.lst ys))) fList := by
  intro Wx σ ρ G H H0 xs ts Q r q h
  unfold fList at h
  split at h
  · obtain ⟨v, rfl, qv⟩ := relTs_one q
    obtain ⟨a, vs, rfl, hv, qs⟩ := relW_tup qv
    exact ⟨a, vs, rfl, .inr hv, fun l hl => h ρ _ (.laid hl) (r.laid hl) _ (fresh_tmp r hl qs)⟩
  · rename_i t _
    obtain ⟨v, rfl, qv⟩ := relTs_one q
    cases e : rdl t G with
    | none => rw [e] at h; exact h.elim
    | some ws =>
      rw [e] at h
      obtain ⟨a, vs, rfl, hv, qs⟩ := rdl_of r qv e
      exact ⟨a, vs, rfl, .inl hv, fun l hl => h ρ _ (.laid hl) (r.laid hl) _ (fresh_tmp r hl qs)⟩
  · exact h.elim
def fTuple (ts : List T) (G : GH) : R T := match ts with
  | [.val (.tup ws)] => .ok (.val (.tup ws)) G
  | [t] => match rdl t G with
    | some ws => .ok (.val (.tup ws)) G
    | none => .bad
  | _ => .bad
theorem says_tuple : SaysC X ca (fun xs H Q => ∃ p ys, xs = [.ref p] ∧ ((SqL X.K H p ys ∧ ∀ l, H l = none → Q (.ref l) (upd H l (.tup ys))) ∨ (SqT X.K H p ys ∧ Q (.ref p) H))) fTuple := by
  intro Wx σ ρ G H H0 xs ts Q r q h
  unfold fTuple at h
  split at h
  · obtain ⟨v, rfl, qv⟩ := relTs_one q
    have qv' : RelW X.K ca ρ H v _ := qv
    obtain ⟨a, vs, rfl, hv, qs⟩ := relW_tup qv'
    exact ⟨a, vs, rfl, .inr ⟨hv, h ρ H .refl r _ qv'⟩⟩
  · rename_i t _
    obtain ⟨v, rfl, qv⟩ := relTs_one q
    cases e : rdl t G with
    | none => rw [e] at h; exact h.elim
    | some ws =>
      rw [e] at h
      obtain ⟨a, vs, rfl, hv, qs⟩ := rdl_of r qv e
      exact ⟨a, vs, rfl, .inl ⟨hv, fun l hl => h ρ _ (.laid hl) (r.laid hl) _ (RelW.tup' (.of upd_same) (relWs_ext qs r (.laid hl)))⟩⟩
  · exact h.elim
def fDivmod (ts : List T) (G : GH) : R T := match ts with
  | [.val (.int i), .val (.int j)] => if decide (0 < j) && decide (j < 1073741824) then .ok (.val (.tup [.int (i / j), .int (i % j)])) G else .bad
  | _ => .bad
theorem says_divmod : SaysC X ca (fun xs H Q => ∃ i j, xs = [.int i, .int j] ∧ CDiv i j ∧ ∀ p, H p = none → Q (.ref p) (upd H p (.tup [.int (i / j), .int (i % j)]))) fDivmod := by
  intro Wx σ ρ G H H0 xs ts Q r q h
  unfold fDivmod at h
  split at h
  · split at h
    · rename_i z
      obtain ⟨v, u, rfl, qv, qu⟩ := relTs_two q
      cases qv; cases qu
      rw [Bool.and_eq_true] at z
      exact ⟨_, _, rfl, ⟨of_decide_eq_true z.1, of_decide_eq_true z.2⟩, fun l hl => h ρ _ (.laid hl) (r.laid hl) _ (RelW.tup' (.of upd_same) (.cons (.int _) (.cons (.int _) .nil)))⟩
    · exact h.elim
  · exact h.elim
/-! isinstance against built-in types -/
def tyOf (G : GH) : T → Option String
  | .tmp _ => some "list"
  | .val w => match w with
    | .non => some "NoneType"
    | .bl _ => some "bool"
    | .int _ => some "int"
    | .str _ => some "str"
    | .tup _ => some "tuple"
    | .loc n => match G[n]? with
      | some (.lst _) => some "list"
      | some (.dK _) => some "dict"
      | some (.dT _) => some "dict"
      | _ => none
    | .frl _ => some "list"
    | .ty _ => none
    | .cls _ => none
    | .exn _ _ => none
def subTy (a b : String) : Option Bool :=
  if b = "int" then some (a == "int" || a == "bool") else if b = "bool" then some (a == "bool") else if b = "str" then some (a == "str")
  else if b = "list" then some (a == "list") else if b = "tuple" then some (a == "tuple") else if b = "dict" then some (a == "dict") else none
theorem subTy_ok {K : PySem.W.Frag} {a b : String} {r : Bool} (ha : a = "list" ∨ a = "NoneType" ∨ a = "bool" ∨ a = "int" ∨ a = "str" ∨ a = "tuple" ∨ a = "dict") (h : subTy a b = some r) : PySem.W.kitOne K (.type a) (.type b) = some r := by
  apply kit_ty
  unfold subTy at h
  split at h
  · rename_i e; subst e; rcases ha with rfl | rfl | rfl | rfl | rfl | rfl | rfl <;> (cases h; decide +kernel)
  · split at h
    · rename_i e; subst e; rcases ha with rfl | rfl | rfl | rfl | rfl | rfl | rfl <;> (cases h; decide +kernel)
    · split at h
      · rename_i e; subst e; rcases ha with rfl | rfl | rfl | rfl | rfl | rfl | rfl <;> (cases h; decide +kernel)
      · split at h
        · rename_i e; subst e; rcases ha with rfl | rfl | rfl | rfl | rfl | rfl | rfl <;> (cases h; decide +kernel)
        · split at h
          · rename_i e; subst e; rcases ha with rfl | rfl | rfl | rfl | rfl | rfl | rfl <;> (cases h; decide +kernel)
          · split at h
            · rename_i e; subst e; rcases ha with rfl | rfl | rfl | rfl | rfl | rfl | rfl <;> (cases h; decide +kernel)
            · cases h
theorem sqT_ty {K : PySem.W.Frag} {H : Hp} {a : Addr} {vs : List V} (h : SqT K H a vs) : TyX K H (.ref a) (.type "tuple") := by
  rcases h with h | ⟨o, its, n, hk, hc, _⟩
  · rcases h with h | ⟨o, h⟩
    · exact .base (.tup h)
    · exact .fTuple h
  · exact .kTuple hk hc
theorem tyOf_ok {K : PySem.W.Frag} {ρ : List Addr} {G : GH} {H H0 : Hp} {v : V} {t : T} {a : String} (r : Rep K ca ρ G H) (q : RelT K ca H0 ρ H v t) (h : tyOf G t = some a) :
    TyX K H v (.type a) ∧ (a = "list" ∨ a = "NoneType" ∨ a = "bool" ∨ a = "int" ∨ a = "str" ∨ a = "tuple" ∨ a = "dict") := by
  cases t with
  | tmp ws =>
    cases h
    obtain ⟨p, vs, rfl, _, _, hp, _⟩ := q
    exact ⟨.base (.lst hp), .inl rfl⟩
  | val w =>
    cases w with
    | non => cases h; cases q; exact ⟨.base .non, by simp⟩
    | bl b => cases h; cases q; exact ⟨.base (.bl b), by simp⟩
    | int b => cases h; cases q; exact ⟨.base (.int b), by simp⟩
    | str b => cases h; cases q; exact ⟨.base (.str b), by simp⟩
    | tup ws =>
      cases h
      obtain ⟨a, vs, rfl, hv, _⟩ := relW_tup q
      exact ⟨sqT_ty hv, by simp⟩
    | loc n =>
      cases q with
      | loc hn =>
        obtain ⟨o, e, ho⟩ := r.at hn
        unfold tyOf at h
        dsimp only at h
        rw [e] at h
        cases o with
        | lst ws => cases h; obtain ⟨vs, e, _⟩ := ho; exact ⟨.base (.lst e), by simp⟩
        | dK ws => cases h; obtain ⟨vs, e, _⟩ := ho; exact ⟨.base (.dK e), by simp⟩
        | dT ws => cases h; obtain ⟨vs, e, _⟩ := ho; exact ⟨.base (.dT e), by simp⟩
        | ins c fs => cases h
        | tb k q => cases h
    | frl ws =>
      cases h
      obtain ⟨a, vs, rfl, hv, _⟩ := relW_frl q
      refine ⟨?_, by simp⟩
      rcases hv with ⟨o, hv⟩ | ⟨o, its, n, hk, hc, _⟩
      · exact .base (.frz hv)
      · exact .kList hk hc
    | ty n => cases h
    | cls n => cases h
    | exn n a => cases h
def fIsi (ts : List T) (G : GH) : R T := match ts with
  | [t, .val (.ty b)] => match (tyOf G t).bind fun a => subTy a b with
    | some r => .ok (.val (.bl r)) G
    | none => .bad
  | _ => .bad
theorem says_isi : SaysC X ca (rIsi X.K) fIsi := by
  intro Wx σ ρ G H H0 xs ts Q r q h
  unfold fIsi at h
  split at h
  · rename_i t b
    obtain ⟨v, u, rfl, qv, qu⟩ := relTs_two q
    cases qu
    cases e : tyOf G t with
    | none => rw [e] at h; exact h.elim
    | some a =>
      cases e2 : subTy a b with
      | none => rw [e, Option.bind_some, e2] at h; exact h.elim
      | some c =>
        rw [e, Option.bind_some, e2] at h
        obtain ⟨h1, h2⟩ := tyOf_ok r qv e
        exact ⟨v, .ty b, .type a, .type b, c, rfl, .ty b, h1, subTy_ok h2 e2, h ρ H .refl r _ (.bl _)⟩
  · exact h.elim
/-- a built-in class as a value -/
theorem s_ty {x : Str} {n : String} (hg : Gl X x) (hm : X.mg x = none) (hv : bootBuiltins x = some (.type n)) (hn : x ≠ "__name__" := by decide) (hd : (x == ("__debug__" : Str)) = false := by decide) : PE X (.Name x pos) (tE X.K ca Wx (mC (.ty n))) :=
  s_const (pe_bltn (v := .ty n) hg hm hv rfl hn hd) fun _ _ => .ty n

/-! in, not in -/
def strIn (i j : Str) : Bool := !(Builtin.Str.occurrences j i 0 j.length 1).isEmpty
def vOf : W → Option V
  | .non => some .non | .bl b => some (.bl b) | .int i => some (.int i) | .str x => some (.str x) | _ => none
def inB (x y : T) (G : GH) : Option Bool := match y with
  | .val (.str j) => match x with
    | .val (.str i) => some (strIn i j)
    | _ => none
  | .val (.tup ws) => match x with
    | .val w => (vOf w).bind fun v => (mapO vOf ws).bind fun vs => some (inV v vs)
    | _ => none
  | y => match toDT G x, toDT G y with
    | some d, some (.list ds) => some (ds.any fun z => PyData.eqv z d)
    | _, _ => none
def fIn (x y : T) (G : GH) : R T := match inB x y G with
  | some b => .ok (.val (.bl b)) G
  | none => .bad
def fNotIn (x y : T) (G : GH) : R T := match inB x y G with
  | some b => .ok (.val (.bl (!b))) G
  | none => .bad
def rInA (K : PySem.W.Frag) : R2 := fun x y H Q => rInD K x y H Q ∨ rIn K false x y H Q ∨ (∃ i j, x = .str i ∧ y = .str j ∧ Q (.bl (!(Builtin.Str.occurrences j i 0 j.length 1).isEmpty)) H)
def rNotInA (K : PySem.W.Frag) : R2 := fun x y H Q => rNotInD K x y H Q ∨ rIn K true x y H Q ∨ (∃ i j, x = .str i ∧ y = .str j ∧ Q (.bl (!(!(Builtin.Str.occurrences j i 0 j.length 1).isEmpty))) H)
theorem op_inA (hu : X.A.units + 65 < cLine) : OpR X (compareOp .In) (rInA X.K) := (op_inD hu).or (op_in_seq.or op_in_str)
theorem op_notInA (hu : X.A.units + 65 < cLine) : OpR X (compareOp .NotIn) (rNotInA X.K) := (op_notInD hu).or (op_notIn_seq.or op_notin_str)
theorem vOf_ok {K : PySem.W.Frag} {ρ : List Addr} {H : Hp} {v v' : V} {w : W} (q : RelW K ca ρ H v w) (h : vOf w = some v') : v = v' ∧ flatV v' = true := by
  cases w with
  | non => cases q; cases h; exact ⟨rfl, rfl⟩
  | bl b => cases q; cases h; exact ⟨rfl, rfl⟩
  | int b => cases q; cases h; exact ⟨rfl, rfl⟩
  | str x => cases q; cases h; exact ⟨rfl, rfl⟩
  | _ => cases h
theorem vOfs_ok {K : PySem.W.Frag} {ρ : List Addr} {H : Hp} : ∀ {vs vs' : List V} {ws : List W}, RelWs K ca ρ H vs ws → mapO vOf ws = some vs' → vs = vs' ∧ vs'.all flatV = true
  | _, _, [], .nil, h => by cases h; exact ⟨rfl, rfl⟩
  | _, vs', w :: ws, .cons q t, h => by
    unfold mapO at h
    cases e1 : vOf w with
    | none => rw [e1] at h; cases h
    | some v =>
      cases e2 : mapO vOf ws with
      | none => rw [e1, e2] at h; cases h
      | some us =>
        rw [e1, e2] at h; cases h
        obtain ⟨rfl, f1⟩ := vOf_ok q e1
        obtain ⟨rfl, f2⟩ := vOfs_ok t e2
        exact ⟨rfl, by rw [List.all_cons, f1, f2]; rfl⟩
theorem in_ok {K : PySem.W.Frag} {ρ : List Addr} {G : GH} {H H0 : Hp} {x y : V} {s t : T} {b : Bool} (r : Rep K ca ρ G H) (qx : RelT K ca H0 ρ H x s) (qy : RelT K ca H0 ρ H y t) (e : inB s t G = some b) :
    (∃ d ds, Dp K H x d ∧ Dp K H y (.list ds) ∧ SeqAt.shaped d = true ∧ SeqAt.shaped (.list ds) = true ∧ b = ds.any fun z => PyData.eqv z d) ∨ (∃ i j, x = .str i ∧ y = .str j ∧ b = strIn i j) ∨
      ∃ p xs, y = .ref p ∧ (SqL K H p xs ∨ SqT K H p xs) ∧ flatV x = true ∧ xs.all flatV = true ∧ b = inV x xs := by
  unfold inB at e
  split at e
  · split at e
    · cases qx; cases qy; cases e
      exact .inr (.inl ⟨_, _, rfl, rfl, rfl⟩)
    · cases e
  · rename_i ws
    split at e
    · rename_i w
      cases e1 : vOf w with
      | none => rw [e1] at e; cases e
      | some v =>
        cases e2 : mapO vOf ws with
        | none => rw [e1, e2] at e; cases e
        | some us =>
          rw [e1, e2] at e; cases e
          obtain ⟨a, vs, rfl, hv, qs⟩ := relW_tup qy
          obtain ⟨rfl, f1⟩ := vOf_ok qx e1
          obtain ⟨rfl, f2⟩ := vOfs_ok qs e2
          exact .inr (.inr ⟨a, vs, rfl, .inr hv, f1, f2, rfl⟩)
    · cases e
  · split at e
    · rename_i d ds e1 e2
      cases e
      obtain ⟨a1, a2⟩ := toDT_dp r qx e1
      obtain ⟨b1, b2⟩ := toDT_dp r qy e2
      exact .inl ⟨d, ds, a1, b1, a2, b2, rfl⟩
    · cases e
theorem says_isin : Says2 X ca (rInA X.K) fIn := by
  intro Wx σ ρ G H H0 x y s t Q r qx qy hp
  unfold fIn at hp
  cases e : inB s t G with
  | none => rw [e] at hp; exact hp.elim
  | some b =>
    rw [e] at hp
    have q := hp ρ H .refl r _ (.bl b)
    rcases in_ok r qx qy e with ⟨d, ds, a, b', c, d', rfl⟩ | ⟨i, j, rfl, rfl, rfl⟩ | ⟨p, xs, rfl, hq, f1, f2, rfl⟩
    · exact .inl ⟨d, ds, a, b', c, d', q⟩
    · exact .inr (.inr ⟨i, j, rfl, rfl, q⟩)
    · exact .inr (.inl ⟨p, xs, rfl, hq, f1, f2, q⟩)
theorem says_notIn : Says2 X ca (rNotInA X.K) fNotIn := by
  intro Wx σ ρ G H H0 x y s t Q r qx qy hp
  unfold fNotIn at hp
  cases e : inB s t G with
  | none => rw [e] at hp; exact hp.elim
  | some b =>
    rw [e] at hp
    have q := hp ρ H .refl r _ (.bl (!b))
    rcases in_ok r qx qy e with ⟨d, ds, a, b', c, d', rfl⟩ | ⟨i, j, rfl, rfl, rfl⟩ | ⟨p, xs, rfl, hq, f1, f2, rfl⟩
    · exact .inl ⟨d, ds, a, b', c, d', q⟩
    · exact .inr (.inr ⟨i, j, rfl, rfl, q⟩)
    · exact .inr (.inl ⟨p, xs, rfl, hq, f1, f2, q⟩)

/-! subscripts -/
def fIx (x y : T) (G : GH) : R T := match y with
  | .val (.int i) => match x with
    | .val (.str z) => if z.length ≤ 16777216 then match atI z.cps.toList i with
        | some c => .ok (.val (.str ⟨#[c]⟩)) G
        | none => .bad
      else .bad
    | .val (.tup ws) => match atI ws i with
      | some w => .ok (.val w) G
      | none => .bad
    | t => match (rdl t G).bind fun ws => atI ws i with
      | some w => .ok (.val w) G
      | none => .bad
  | _ => .bad
theorem relWs_atI {K : PySem.W.Frag} {ρ : List Addr} {H : Hp} {vs : List V} {ws : List W} {i : Int} {w : W} (q : RelWs K ca ρ H vs ws) (e : atI ws i = some w) : ∃ v, atI vs i = some v ∧ RelW K ca ρ H v w := by
  unfold atI at e ⊢
  rw [q.length]
  cases e1 : ixN ws.length i with
  | none => rw [e1] at e; cases e
  | some j =>
    rw [e1] at e
    exact relWs_get q e
theorem says_ix : Says2 X ca (rIx X.K) fIx := by
  intro Wx σ ρ G H H0 x y s t Q r qx qy hp
  unfold fIx at hp
  split at hp
  · rename_i i
    cases qy
    split at hp
    · rename_i z
      cases qx
      split at hp
      · rename_i hz
        cases e : atI z.cps.toList i with
        | none => rw [e] at hp; exact hp.elim
        | some c =>
          rw [e] at hp
          exact .inr (.inr ⟨z, i, c, rfl, rfl, by rw [sizeLine_eq]; exact hz, e, hp ρ H .refl r _ (.str _)⟩)
      · exact hp.elim
    · rename_i ws
      obtain ⟨a, vs, rfl, hv, qs⟩ := relW_tup qx
      cases e : atI ws i with
      | none => rw [e] at hp; exact hp.elim
      | some w =>
        rw [e] at hp
        obtain ⟨v, e2, q2⟩ := relWs_atI qs e
        exact .inr (.inl ⟨a, vs, i, v, rfl, rfl, hv, e2, hp ρ H .refl r v q2⟩)
    · cases e : rdl s G with
      | none => rw [e] at hp; exact hp.elim
      | some ws =>
        rw [e, Option.bind_some] at hp
        cases e1 : atI ws i with
        | none => rw [e1] at hp; exact hp.elim
        | some w =>
          rw [e1] at hp
          obtain ⟨a, vs, rfl, hv, qs⟩ := rdl_of r qx e
          obtain ⟨v, e2, q2⟩ := relWs_atI qs e1
          exact .inl ⟨a, vs, i, v, rfl, rfl, hv, e2, hp ρ H .refl r v q2⟩
  · exact hp.elim
theorem s_ix {a b : Expr} {ma mb : M T} (ha : PE X a (tE X.K ca Wx ma)) (hb : PE X b (tE X.K ca Wx mb)) (hs : PlainIx b := by exact fun _ _ => rfl) : PE X (.Subscript a b pos) (tE X.K ca Wx (mBin fIx ma mb)) :=
  PE.weak (pe_ix ix_seq ha hb hs) fun _ _ _ h => Sy.says_in (f := fIx) says_ix h
end
end Sy
set_option Elab.async false
set_option linter.all false
set_option maxRecDepth 100000
set_option maxHeartbeats 4000000
namespace Sy
open PySem PySem.Spec PyProof.Rows L2

section
variable {K : PySem.W.Frag} {ca : Nat → Addr} {ρ : List Addr} {G : GH} {H : Hp}
/-- a list is changed -/
theorem Rep.put (r : Rep K ca ρ G H) {n : Nat} {a : Addr} {us vs : List V} {ws : List W} (hn : ρ[n]? = some a) (ha : H a = some (.lst us)) (q : RelWs K ca ρ H vs ws) : Rep K ca ρ (G.set n (.lst ws)) (upd H a (.lst vs)) := by
  have nt := ns_lst ha
  refine ⟨by rw [List.length_set]; exact r.len, r.nd, fun m b o e1 e2 => ?_⟩
  by_cases hm : n = m
  · subst hm
    rw [hn] at e1
    cases e1
    rw [List.getElem?_set_self (by rw [← r.len]; exact (List.getElem?_eq_some_iff.mp hn).1)] at e2
    cases e2
    exact ⟨vs, upd_same, paired_imp q fun _ _ z => z.mono (fun _ _ h => h) (Stay.put nt)⟩
  · rw [List.getElem?_set_ne hm] at e2
    refine objR_mono (r.obj m b o e1 e2) (fun _ _ h => h) (Stay.put nt) (upd_ne fun e => hm ?_)
    subst e
    exact (nodup_at r.nd hn e1)
where
  nodup_at {ρ : List Addr} (h : ρ.Nodup) {i j : Nat} {a : Addr} (e1 : ρ[i]? = some a) (e2 : ρ[j]? = some a) : i = j := by
    obtain ⟨h1, e1⟩ := List.getElem?_eq_some_iff.mp e1
    obtain ⟨h2, e2⟩ := List.getElem?_eq_some_iff.mp e2
    exact (List.getElem_inj h).mp (e1.trans e2.symm)
theorem Ext.put {n : Nat} {a : Addr} {o : HO} (hn : ρ[n]? = some a) : Ext ρ H ρ (upd H a o) :=
  ⟨fun _ _ h => h, fun _ h => .inl h, fun b u hb e => by
    have nb : b ≠ a := fun z => by subst z; exact hb (List.mem_of_getElem? hn)
    rw [upd_ne nb]; exact e⟩
end

section
variable {X : Cx} {ca : Nat → Addr} {Wx : WX} {pos : Pos}
/-! methods of lists -/
def SaysM (X : Cx) (ca : Nat → Addr) (r : V → List V → Hp → VK → Prop) (f : T → List T → GH → R T) : Prop :=
  ∀ (Wx : WX) (σ : SSt) (ρ : List Addr) (G : GH) (H H0 : Hp) (x : V) (t : T) (xs : List V) (ts : List T) (Q : VK), Rep X.K ca ρ G H → RelT X.K ca H0 ρ H x t → RelTs X.K ca H0 ρ H xs ts →
    Post X.K ca Wx σ ρ H (fun t _ ρ' H' => ∀ v, RelT X.K ca H ρ' H' v t → Q v H') (f t ts G) → r x xs H Q
def isLst (t : T) (G : GH) : Bool := (rdl t G).isSome
def isStr : T → GH → Bool
  | .val (.str _), _ => true
  | _, _ => false
def mMt (ty : T → GH → Bool) (f : T → List T → GH → R T) (mo : M T) (ma : M (List T)) : M T := fun τ G => (mo τ G).bind fun x G1 => if ty x G1 then (ma τ G1).bind fun ts G2 => f x ts G2 else .bad
def TyOk (X : Cx) (ca : Nat → Addr) (ty : T → GH → Bool) (n : String) : Prop := ∀ (ρ : List Addr) (G : GH) (H H0 : Hp) (x : V) (t : T), Rep X.K ca ρ G H → RelT X.K ca H0 ρ H x t → ty t G = true → tyV X.K n x H
theorem ty_list : TyOk X ca isLst "list" := by
  intro ρ G H H0 x t r q h
  unfold isLst at h
  cases e : rdl t G with
  | none => rw [e] at h; cases h
  | some ws =>
    obtain ⟨a, vs, rfl, hv, _⟩ := rdl_of r q e
    exact .inl ⟨rfl, vs, hv⟩
theorem ty_str : TyOk X ca isStr "str" := by
  intro ρ G H H0 x t r q h
  unfold isStr at h
  split at h
  · cases q; exact rfl
  · cases h
theorem mt_in {r : V → List V → Hp → VK → Prop} {f : T → List T → GH → R T} {ty : T → GH → Bool} {n : String} (hs : SaysM X ca r f) (ht : TyOk X ca ty n) {mo : M T} {ma : M (List T)} {σ : SSt} {H : Hp} {Q : VK} (h : tE X.K ca Wx (mMt ty f mo ma) σ H Q) :
    tBM X.K n r (tE X.K ca Wx mo) (tB X.K ca Wx ma) σ H Q := by
  obtain ⟨ρ, G, τ, r0, s0, h⟩ := h
  refine tE.seq r0 s0 h fun t G1 ρ1 H1 v x1 r1 s1 q1 h1 => ?_
  cases e : ty t G1 with
  | false => rw [e] at h1; exact h1.elim
  | true =>
    rw [e, if_pos rfl] at h1
    refine ⟨ht ρ1 G1 H1 H v t r1 q1 e, tB.seq r1 s1 h1 fun ts G2 ρ2 H2 vs x2 r2 s2 q2 h2 => ?_⟩
    exact hs Wx σ ρ2 G2 H2 H v t vs ts Q r2 (q1.ext r1 x2) (paired_imp q2 fun _ _ z => z.back x1 x2) (h2.imp fun t G' ρ' H' x' _ q v rv => q v (rv.back (x1.trans x2) x'))
theorem mt_in0 {r : V → List V → Hp → VK → Prop} {f : T → List T → GH → R T} {ty : T → GH → Bool} {n : String} (hs : SaysM X ca r f) (ht : TyOk X ca ty n) {mo : M T} {σ : SSt} {H : Hp} {Q : VK} (h : tE X.K ca Wx (mMt ty f mo mNilT) σ H Q) :
    tBM0 X.K n r (tE X.K ca Wx mo) σ H Q := by
  obtain ⟨ρ, G, τ, r0, s0, h⟩ := h
  refine tE.seq r0 s0 h fun t G1 ρ1 H1 v x1 r1 s1 q1 h1 => ?_
  cases e : ty t G1 with
  | false => rw [e] at h1; exact h1.elim
  | true =>
    rw [e, if_pos rfl] at h1
    exact ⟨ht ρ1 G1 H1 H v t r1 q1 e, hs Wx σ ρ1 G1 H1 H v t [] [] Q r1 q1 .nil (h1.imp fun t G' ρ' H' x' _ q v rv => q v (rv.back x1 x'))⟩
variable {o e : Expr} {es : List Expr} {name : Str} {apos cpos : Pos} {n id : String} {r : V → List V → Hp → VK → Prop} {f : T → List T → GH → R T} {ty : T → GH → Bool} {mo : M T} {ma : M (List T)}
theorem s_mt (pa : PlainAttrs n) (slot : Slot n name id) (hty : typeOf (.builtin id) = pure (.type "method_descriptor")) (hm : MtR X id r) (hs : SaysM X ca r f) (ht : TyOk X ca ty n) (ho : PE X o (tE X.K ca Wx mo)) (ha : PA X (e :: es) (tB X.K ca Wx ma))
    (hbase : attributeBase o name X.env (eval o X.env) = eval o X.env := by rfl)
    (hfew : ((backTo cpos (starEach (e :: es) X.env)).all (fun x => !x.1) && (backToKw cpos (keywordEach [] X.env)).all (fun x => x.1.isSome)
      && decide ((e :: es).length + ([] : List Keyword).length + (if ([] : List Keyword).isEmpty then 0 else 1) < 30)) = true := by rfl)
    (hline : (apos.endLine == cpos.line) = true := by rfl) (hst : starEach (e :: es) X.env = (false, eval e X.env) :: starEach es X.env := by rfl) (hplain : (backTo cpos (starEach es X.env)).any (·.1) = false := by rfl) :
    PE X (.Call (.Attribute o name apos) (e :: es) [] cpos) (tE X.K ca Wx (mMt ty f mo ma)) := PE.weak (pe_bm pa slot hty hm ho ha hbase hfew hline hst hplain) fun _ _ _ h => mt_in hs ht h
theorem s_mt0 (pa : PlainAttrs n) (slot : Slot n name id) (hty : typeOf (.builtin id) = pure (.type "method_descriptor")) (hm : MtR X id r) (hs : SaysM X ca r f) (ht : TyOk X ca ty n) (ho : PE X o (tE X.K ca Wx mo))
    (hbase : attributeBase o name X.env (eval o X.env) = eval o X.env := by rfl) (hline : (apos.endLine == cpos.line) = true := by rfl) : PE X (.Call (.Attribute o name apos) [] [] cpos) (tE X.K ca Wx (mMt ty f mo mNilT)) :=
  PE.weak (pe_bm0 pa slot hty hm ho hbase hline) fun _ _ _ h => mt_in0 hs ht h

/-- the list at a place, to be changed -/
def lstAt (t : T) (G : GH) : Option (Nat × List W) := match t with
  | .val (.loc n) => (G[n]?.bind GO.wr).map fun ws => (n, ws)
  | _ => none
theorem lstAt_of {K : PySem.W.Frag} {ρ : List Addr} {G : GH} {H H0 : Hp} {v : V} {t : T} {n : Nat} {ws : List W} (r : Rep K ca ρ G H) (q : RelT K ca H0 ρ H v t) (h : lstAt t G = some (n, ws)) :
    ∃ a vs, v = .ref a ∧ ρ[n]? = some a ∧ H a = some (.lst vs) ∧ RelWs K ca ρ H vs ws := by
  cases t with
  | tmp us => cases h
  | val w =>
    cases w with
    | loc m =>
      cases q with
      | loc hn =>
        obtain ⟨o, e, ho⟩ := r.at hn
        have h : (G[m]?.bind GO.wr).map (fun ws => (m, ws)) = some (n, ws) := h
        rw [e] at h
        cases o with
        | lst us => cases h; obtain ⟨vs, e, q⟩ := ho; exact ⟨_, vs, rfl, hn, e, q⟩
        | _ => cases h
    | _ => cases h
/-! .. whose arguments are kept -/
def SaysMF (X : Cx) (ca : Nat → Addr) (r : V → List V → Hp → VK → Prop) (f : T → List W → GH → R T) : Prop :=
  ∀ (Wx : WX) (σ : SSt) (ρ : List Addr) (G : GH) (H H0 : Hp) (x : V) (t : T) (xs : List V) (ts : List W) (Q : VK), Rep X.K ca ρ G H → RelT X.K ca H0 ρ H x t → RelWs X.K ca ρ H xs ts →
    Post X.K ca Wx σ ρ H (fun t _ ρ' H' => ∀ v, RelT X.K ca H ρ' H' v t → Q v H') (f t ts G) → r x xs H Q
def mMtF (ty : T → GH → Bool) (f : T → List W → GH → R T) (mo : M T) (ma : M (List W)) : M T := fun τ G => (mo τ G).bind fun x G1 => if ty x G1 then (ma τ G1).bind fun ts G2 => f x ts G2 else .bad
theorem mtF_in {r : V → List V → Hp → VK → Prop} {f : T → List W → GH → R T} {ty : T → GH → Bool} {n : String} (hs : SaysMF X ca r f) (ht : TyOk X ca ty n) {mo : M T} {ma : M (List W)} {σ : SSt} {H : Hp} {Q : VK} (h : tE X.K ca Wx (mMtF ty f mo ma) σ H Q) :
    tBM X.K n r (tE X.K ca Wx mo) (tA X.K ca Wx ma) σ H Q := by
  obtain ⟨ρ, G, τ, r0, s0, h⟩ := h
  refine tE.seq r0 s0 h fun t G1 ρ1 H1 v x1 r1 s1 q1 h1 => ?_
  cases e : ty t G1 with
  | false => rw [e] at h1; exact h1.elim
  | true =>
    rw [e, if_pos rfl] at h1
    refine ⟨ht ρ1 G1 H1 H v t r1 q1 e, tA.seq r1 s1 h1 fun ts G2 ρ2 H2 vs x2 r2 s2 q2 h2 => ?_⟩
    exact hs Wx σ ρ2 G2 H2 H v t vs ts Q r2 (q1.ext r1 x2) q2 (h2.imp fun t G' ρ' H' x' _ q v rv => q v (rv.back (x1.trans x2) x'))
theorem s_mtF {f : T → List W → GH → R T} {ma : M (List W)} (pa : PlainAttrs n) (slot : Slot n name id) (hty : typeOf (.builtin id) = pure (.type "method_descriptor")) (hm : MtR X id r) (hs : SaysMF X ca r f) (ht : TyOk X ca ty n) (ho : PE X o (tE X.K ca Wx mo)) (ha : PA X (e :: es) (tA X.K ca Wx ma))
    (hbase : attributeBase o name X.env (eval o X.env) = eval o X.env := by rfl)
    (hfew : ((backTo cpos (starEach (e :: es) X.env)).all (fun x => !x.1) && (backToKw cpos (keywordEach [] X.env)).all (fun x => x.1.isSome)
      && decide ((e :: es).length + ([] : List Keyword).length + (if ([] : List Keyword).isEmpty then 0 else 1) < 30)) = true := by rfl)
    (hline : (apos.endLine == cpos.line) = true := by rfl) (hst : starEach (e :: es) X.env = (false, eval e X.env) :: starEach es X.env := by rfl) (hplain : (backTo cpos (starEach es X.env)).any (·.1) = false := by rfl) :
    PE X (.Call (.Attribute o name apos) (e :: es) [] cpos) (tE X.K ca Wx (mMtF ty f mo ma)) := PE.weak (pe_bm pa slot hty hm ho ha hbase hfew hline hst hplain) fun _ _ _ h => mtF_in hs ht h
/-- xs.append(y) -/
def fApp (t : T) (ws : List W) (G : GH) : R T := match ws with
  | [w] => match lstAt t G with
    | some (n, us) => if us.length < 16777216 then .ok (.val .non) (G.set n (.lst (us ++ [w]))) else .bad
    | none => .bad
  | _ => .bad
theorem says_app : SaysMF X ca rAppend fApp := by
  intro Wx σ ρ G H H0 x t xs ts Q r qx qs h
  unfold fApp at h
  split at h
  · rename_i w
    obtain ⟨v, rfl, qv⟩ := relWs_one qs
    split at h
    · rename_i m us e
      split at h
      · rename_i hz
        obtain ⟨a, vs, rfl, hn, ha, qa⟩ := lstAt_of r qx e
        refine ⟨a, vs, v, rfl, rfl, ha, by rw [sizeLine_eq, qa.length]; exact hz, ?_⟩
        exact h ρ _ (.put hn) (r.put hn ha (relWs_app qa (.cons qv .nil))) _ .non
      · exact h.elim
    · exact h.elim
  · exact h.elim
/-- xs.pop() -/
def fPop (t : T) (ts : List T) (G : GH) : R T := match ts with
  | [] => match lstAt t G with
    | some (n, us) => match us[us.length - 1]? with
      | some w => .ok (.val w) (G.set n (.lst us.dropLast))
      | none => .bad
    | none => .bad
  | _ => .bad
theorem relWs_dropLast {K : PySem.W.Frag} {ρ : List Addr} {H : Hp} {vs : List V} {ws : List W} (q : RelWs K ca ρ H vs ws) : RelWs K ca ρ H vs.dropLast ws.dropLast :=
  relWs_of (by rw [List.length_dropLast, List.length_dropLast, q.length]) fun i v w e1 e2 => by
    rw [List.getElem?_dropLast] at e1 e2
    split at e1
    · split at e2
      · exact paired_get q i v w e1 e2
      · cases e2
    · cases e1
theorem says_pop : SaysM X ca rPop fPop := by
  intro Wx σ ρ G H H0 x t xs ts Q r qx qs h
  unfold fPop at h
  split at h
  · cases qs
    split at h
    · rename_i m us e
      split at h
      · rename_i w e2
        obtain ⟨a, vs, rfl, hn, ha, qa⟩ := lstAt_of r qx e
        obtain ⟨v, e3, qv⟩ := relWs_get qa e2
        refine ⟨a, vs, v, rfl, rfl, ha, by rw [qa.length]; exact e3, ?_⟩
        exact h ρ _ (.put hn) (r.put hn ha (relWs_dropLast qa)) _ (qv.mono (fun _ _ h => h) (Stay.put (ns_lst ha)))
      · exact h.elim
    · exact h.elim
  · exact h.elim
/-- xs.extend(ys) -/
def fExt (t : T) (ts : List T) (G : GH) : R T := match ts with
  | [u] => match lstAt t G, wrl u G with
    | some (n, us), some ws => if us.length + ws.length ≤ 16777216 then .ok (.val .non) (G.set n (.lst (us ++ ws))) else .bad
    | _, _ => .bad
  | _ => .bad
theorem says_ext : SaysM X ca rExtend fExt := by
  intro Wx σ ρ G H H0 x t xs ts Q r qx qs h
  unfold fExt at h
  split at h
  · obtain ⟨v, rfl, qv⟩ := relTs_one qs
    split at h
    · rename_i m us ws e e2
      split at h
      · rename_i hz
        obtain ⟨a, vs, rfl, hn, ha, qa⟩ := lstAt_of r qx e
        obtain ⟨b, vs2, rfl, hb, qb⟩ := wrl_of r qv e2
        refine ⟨a, b, vs, vs2, rfl, rfl, ha, hb, by rw [sizeLine_eq, qa.length, qb.length]; exact hz, ?_⟩
        exact h ρ _ (.put hn) (r.put hn ha (relWs_app qa qb)) _ .non
      · exact h.elim
    · exact h.elim
  · exact h.elim
def fClr (t : T) (ts : List T) (G : GH) : R T := match ts with
  | [] => match lstAt t G with
    | some (n, _) => .ok (.val .non) (G.set n (.lst []))
    | none => .bad
  | _ => .bad
theorem says_clr : SaysM X ca rClear fClr := by
  intro Wx σ ρ G H H0 x t xs ts Q r qx qs h
  unfold fClr at h
  split at h
  · cases qs
    split at h
    · rename_i m us e
      obtain ⟨a, vs, rfl, hn, ha, qa⟩ := lstAt_of r qx e
      exact ⟨a, vs, rfl, rfl, ha, h ρ _ (.put hn) (r.put hn ha .nil) _ .non⟩
    · exact h.elim
  · exact h.elim
def fRev (t : T) (ts : List T) (G : GH) : R T := match ts with
  | [] => match lstAt t G with
    | some (n, us) => .ok (.val .non) (G.set n (.lst us.reverse))
    | none => .bad
  | _ => .bad
theorem relWs_rev {K : PySem.W.Frag} {ρ : List Addr} {H : Hp} {vs : List V} {ws : List W} (q : RelWs K ca ρ H vs ws) : RelWs K ca ρ H vs.reverse ws.reverse :=
  relWs_of (by rw [List.length_reverse, List.length_reverse, q.length]) fun i v w e1 e2 => by
    have h1 : i < vs.length := by simpa using (List.getElem?_eq_some_iff.mp e1).1
    rw [List.getElem?_reverse h1] at e1
    rw [List.getElem?_reverse (by rw [← q.length]; exact h1), ← q.length] at e2
    exact paired_get q _ v w e1 e2
theorem says_rev : SaysM X ca rReverse fRev := by
  intro Wx σ ρ G H H0 x t xs ts Q r qx qs h
  unfold fRev at h
  split at h
  · cases qs
    split at h
    · rename_i m us e
      obtain ⟨a, vs, rfl, hn, ha, qa⟩ := lstAt_of r qx e
      exact ⟨a, vs, rfl, rfl, ha, h ρ _ (.put hn) (r.put hn ha (relWs_rev qa)) _ .non⟩
    · exact h.elim
  · exact h.elim
/-! xs[i] = e -/
def sPut (mo mi : M T) (m : M T) : MS := fun τ G => (mF m τ G).toS τ fun w G1 => (mo τ G1).toS τ fun t G2 => (mi τ G2).toS τ fun i G3 => match i, lstAt t G3 with
  | .val (.int k), some (n, us) => match ixN us.length k with
    | some j => .nx τ (G3.set n (.lst (us.set j w)))
    | none => .bad
  | _, _ => .bad
theorem relWs_set {K : PySem.W.Frag} {ρ : List Addr} {H : Hp} {v : V} {w : W} (qv : RelW K ca ρ H v w) : ∀ {vs : List V} {ws : List W} (j : Nat), RelWs K ca ρ H vs ws → RelWs K ca ρ H (vs.set j v) (ws.set j w)
  | _, _, _, .nil => .nil
  | _, _, 0, .cons _ t => .cons qv t
  | _, _, j + 1, .cons q t => .cons q (relWs_set qv j t)
theorem s_put {o i e : Expr} {mo mi m : M T} {spos tpos : Pos} (ho : PE X o (tE X.K ca Wx mo)) (hi : PE X i (tE X.K ca Wx mi)) (he : PE X e (tE X.K ca Wx m))
    (ha : ∀ v, assign (.Subscript o i tpos) X.env v = (do
      let ov ← holding [v] (eval o X.env)
      let iv ← holding [v, ov] (eval i X.env)
      standAt tpos
      holding [v, ov, iv] (setItem ov iv v)
      release [v, ov, iv] []) := by intro _; rfl)
    (hs : swapsWithSole [.Subscript o i tpos] e spos.line X.env = pure false := by rfl) (hw : swappedStores [.Subscript o i tpos] e X.env = pure none := by rfl)
    (h1 : (assignEach [.Subscript o i tpos] X.env).map (·.2) = [assign (.Subscript o i tpos) X.env] := by rfl) :
    PS X (.Assign [.Subscript o i tpos] e spos) (tS X.K ca Wx (sPut mo mi m)) := by
  refine PS.weak (ps_asg he (pg_sub ho hi set_list ha) hs hw h1) fun D σ H ⟨ρ, G, τ, r, s, h⟩ => ?_
  refine tE.seqFS r s h fun w G1 ρ1 H1 v x1 r1 s1 q1 h1 => ?_
  refine tE.seqS r1 s1 h1 fun t G2 ρ2 H2 vo x2 r2 s2 q2 h2 => ?_
  refine tE.seqS r2 s2 h2 fun u G3 ρ3 H3 vi x3 r3 s3 q3 h3 => ?_
  split at h3
  · rename_i k n us e
    split at h3
    · rename_i j ej
      cases q3
      obtain ⟨a, vs, rfl, hn, hl, qa⟩ := lstAt_of r3 (q2.ext r2 x3) e
      have qv := (q1.ext r1 x2).ext r2 x3
      refine ⟨a, vs, k, j, rfl, rfl, hl, by rw [qa.length]; exact ej, ?_⟩
      exact h3 ρ3 _ σ (.put hn) (r3.put hn hl (relWs_set qv j qa)) (s3.ext r3 (.put hn))
    · exact h3.elim
  · exact h3.elim
end
end Sy
set_option Elab.async false
set_option linter.all false
set_option maxRecDepth 100000
set_option maxHeartbeats 4000000
namespace Sy
open PySem PySem.Spec PyProof.Rows L2

section
variable {X : Cx} {ca : Nat → Addr} {Wx : WX} {pos : Pos}
/-! chains -/
def mChain (f g : T → T → GH → R T) (a b c : M T) : M T := fun τ G => (a τ G).bind fun x G1 => (b τ G1).bind fun y G2 => (f x y G2).bind fun z G3 => (asB z G3).bind fun k G4 => if k then (c τ G4).bind fun u G5 => g y u G5 else .ok (.val (.bl false)) G4
theorem chain_in {r r' : R2} {f g : T → T → GH → R T} (hf : Says2 X ca r f) (hg : Says2 X ca r' g) {ma mb mc : M T} {σ : SSt} {H : Hp} {Q : VK} (h : tE X.K ca Wx (mChain f g ma mb mc) σ H Q) : tChain r r' (tE X.K ca Wx ma) (tE X.K ca Wx mb) (tE X.K ca Wx mc) σ H Q := by
  obtain ⟨ρ, G, τ, r0, s0, h⟩ := h
  refine tE.seq r0 s0 h fun t1 G1 ρ1 H1 v1 x1 r1 s1 q1 h1 => ?_
  refine tE.seq r1 s1 h1 fun t2 G2 ρ2 H2 v2 x2 r2 s2 q2 h2 => ?_
  have x12 := x1.trans x2
  refine hf Wx σ ρ2 G2 H2 H v1 v2 t1 t2 _ r2 (q1.ext r1 x2) (q2.back x1 x2) ?_
  refine (Post.bindX h2).imp fun z G3 ρ3 H3 _ r3 ⟨x3, h3⟩ vz qz => ?_
  obtain ⟨k, e, h4⟩ := asB_of qz h3
  refine ⟨k, e, ?_⟩
  have x13 := x12.trans x3
  cases k with
  | false =>
    rw [if_neg Bool.false_ne_true] at h4 ⊢
    exact h4 ρ3 H3 .refl r3 _ (.bl false)
  | true =>
    rw [if_pos rfl] at h4 ⊢
    refine tE.seq r3 (s2.ext r2 x3) h4 fun t4 G4 ρ4 H4 v4 x4 r4 s4 q4 h5 => ?_
    exact hg Wx σ ρ4 G4 H4 H v2 v4 t2 t4 Q r4 (((q2.ext r2 x3).ext r3 x4).back x1 (x2.trans (x3.trans x4))) (q4.back x13 x4) (h5.imp fun t G' ρ' H' x' _ q v rv => q v (rv.back (x13.trans x4) x'))
theorem s_chain {op op' : CmpOp} {a b c : Expr} {r r' : R2} {f g : T → T → GH → R T} {ma mb mc : M T} (ho : OpR X (compareOp op) r) (ho' : OpR X (compareOp op') r') (hf : Says2 X ca r f) (hg : Says2 X ca r' g)
    (ha : PE X a (tE X.K ca Wx ma)) (hb : PE X b (tE X.K ca Wx mb)) (hc : PE X c (tE X.K ca Wx mc)) (hm : lastMarks [op, op'] [b, c] = false := by with_unfolding_all rfl) : PE X (.Compare a [op, op'] [b, c] pos) (tE X.K ca Wx (mChain f g ma mb mc)) :=
  PE.weak (pe_chain ho ho' ha hb hc hm) fun _ _ _ h => chain_in hf hg h
theorem s_testChain {op op' : CmpOp} {a b c : Expr} {r r' : R2} {f g : T → T → GH → R T} {ma mb mc : M T} (ho : OpR X (compareOp op) r) (ho' : OpR X (compareOp op') r') (hf : Says2 X ca r f) (hg : Says2 X ca r' g)
    (ha : PE X a (tE X.K ca Wx ma)) (hb : PE X b (tE X.K ca Wx mb)) (hc : PE X c (tE X.K ca Wx mc)) (hm : lastMarks [op, op'] [b, c] = false := by with_unfolding_all rfl) : PT X (.Compare a [op, op'] [b, c] pos) (tT X.K ca Wx (mB (mChain f g ma mb mc))) :=
  PT.weak (pt_chain ho ho' ha hb hc hm) fun _ _ _ h => chain_in hf hg (tTest_of h)
/-! truth -/
def truT (t : T) (G : GH) : R Bool := match t with
  | .tmp ws => .ok (!ws.isEmpty) G
  | .val w => match w with
    | .non => .ok false G
    | .bl b => .ok b G
    | .int i => .ok (i != 0) G
    | .str x => if x.length ≤ 16777216 then .ok ((x.length : Int) != 0) G else .bad
    | .tup ws => .ok (!ws.isEmpty) G
    | .frl ws => .ok (!ws.isEmpty) G
    | .loc n => match G[n]?.bind GO.rd with
      | some ws => .ok (!ws.isEmpty) G
      | none => .bad
    | _ => .bad
def mTru (m : M T) : M Bool := fun τ G => (m τ G).bind truT
theorem isEmpty_rel {K : PySem.W.Frag} {ρ : List Addr} {H : Hp} {vs : List V} {ws : List W} (q : RelWs K ca ρ H vs ws) : vs.isEmpty = ws.isEmpty := by
  cases q <;> rfl
theorem s_truth {e : Expr} {m : M T} (h : PE X e (tE X.K ca Wx m)) (he : ∀ whole, isTrue e X.env whole = (do let v ← whole; standAt e.pos; holding [v] (truthy v)) := by intro _; rfl) : PT X e (tT X.K ca Wx (mTru m)) := by
  refine PT.weak (pt_truth h he) fun σ H Q ⟨ρ, G, τ, r0, s0, h⟩ => ?_
  refine tE.seq r0 s0 h fun t G1 ρ1 H1 v x1 r1 s1 q1 h1 => ?_
  cases t with
  | tmp ws =>
    obtain ⟨p, vs, rfl, hn, h0, hp, qs⟩ := q1
    exact ⟨_, .inl ⟨vs, .of hp, rfl⟩, by rw [isEmpty_rel qs]; exact h1 ρ1 H1 .refl r1⟩
  | val w =>
    cases w with
    | non => cases q1; exact ⟨false, rfl, h1 ρ1 H1 .refl r1⟩
    | bl b => cases q1; exact ⟨b, rfl, h1 ρ1 H1 .refl r1⟩
    | int b => cases q1; exact ⟨_, rfl, h1 ρ1 H1 .refl r1⟩
    | str x =>
      cases q1
      have h1 : Post X.K ca Wx σ ρ1 H1 (fun b _ _ H' => Q b H') (if x.length ≤ 16777216 then .ok ((x.length : Int) != 0) G1 else .bad) := h1
      split at h1
      · rename_i z
        exact ⟨_, ⟨by rw [sizeLine_eq]; exact z, rfl⟩, h1 ρ1 H1 .refl r1⟩
      · exact h1.elim
    | tup ws =>
      obtain ⟨a, vs, rfl, hv, qs⟩ := relW_tup q1
      exact ⟨_, .inr (.inl ⟨vs, hv, rfl⟩), by rw [isEmpty_rel qs]; exact h1 ρ1 H1 .refl r1⟩
    | loc n =>
      have h1 : Post X.K ca Wx σ ρ1 H1 (fun b _ _ H' => Q b H') (match rdw G1 (.loc n) with | some ws => .ok (!ws.isEmpty) G1 | none => .bad) := h1
      cases e : rdw G1 (.loc n) with
      | none => rw [e] at h1; exact h1.elim
      | some ws =>
        rw [e] at h1
        obtain ⟨a, vs, rfl, hv, qs⟩ := rdw_of r1 q1 e
        exact ⟨_, .inl ⟨vs, hv, rfl⟩, by rw [isEmpty_rel qs]; exact h1 ρ1 H1 .refl r1⟩
    | frl ws =>
      obtain ⟨a, vs, rfl, hv, qs⟩ := relW_frl q1
      exact ⟨_, .inl ⟨vs, hv.sq, rfl⟩, by rw [isEmpty_rel qs]; exact h1 ρ1 H1 .refl r1⟩
    | ty n => exact h1.elim
    | cls n => exact h1.elim
    | exn n a => exact h1.elim
/-! is -/
def rIsA : R2 := fun x y H Q => (y = .non ∧ Q (.bl (decide (x = .non))) H) ∨ rIsB x y H Q
def rIsNotA : R2 := fun x y H Q => (y = .non ∧ Q (.bl (!decide (x = .non))) H) ∨ rNotB x y H Q
theorem op_isA : OpR X (compareOp .Is) rIsA := op_isN.or op_isBl
theorem op_isNotA : OpR X (compareOp .IsNot) rIsNotA := op_notN.or op_notBl
theorem non_iff {K : PySem.W.Frag} {ρ : List Addr} {H : Hp} {v : V} {w : W} (q : RelW K ca ρ H v w) : decide (v = .non) = isNonW w := by
  cases q <;> simp [isNonW]
theorem says_is : Says2 X ca rIsA fIs := by
  intro Wx σ ρ G H H0 x y s t Q r qx qy hp
  unfold fIs at hp
  split at hp
  · cases qy
    exact .inl ⟨rfl, by rw [non_iff qx]; exact hp ρ H .refl r _ (.bl _)⟩
  · cases qx; cases qy
    exact .inr ⟨_, _, rfl, rfl, hp ρ H .refl r _ (.bl _)⟩
  · exact hp.elim
theorem says_isNot : Says2 X ca rIsNotA fIsNot := by
  intro Wx σ ρ G H H0 x y s t Q r qx qy hp
  unfold fIsNot at hp
  split at hp
  · cases qy
    exact .inl ⟨rfl, by rw [non_iff qx]; exact hp ρ H .refl r _ (.bl _)⟩
  · cases qx; cases qy
    exact .inr ⟨_, _, rfl, rfl, hp ρ H .refl r _ (.bl _)⟩
  · exact hp.elim
/-! minus -/
def fNeg (t : T) (G : GH) : R T := match t with
  | .val (.int i) => .ok (.val (.int (-i))) G
  | _ => .bad
theorem s_neg {a : Expr} {ma : M T} (ha : PE X a (tE X.K ca Wx ma)) : PE X (.UnaryOp .USub a pos) (tE X.K ca Wx (mUn fNeg ma)) := by
  refine PE.weak (pe_un un_neg ha) fun σ H Q ⟨ρ, G, τ, r0, s0, h⟩ => ?_
  refine tE.seq r0 s0 h fun t G1 ρ1 H1 v x1 r1 s1 q1 h1 => ?_
  unfold fNeg at h1
  split at h1
  · cases q1
    exact ⟨_, rfl, h1 ρ1 H1 .refl r1 _ (.int _)⟩
  · exact h1.elim
/-! += -/
def rAugA : R2 := fun x y H Q => rI0 (fun i j => .int (i + j)) x y H Q ∨ (∃ i j, x = .str i ∧ y = .str j ∧ i.length + j.length ≤ sizeLine ∧ Q (.str (i ++ j)) H) ∨ rExt2 x y H Q
theorem aug_add : PIp X .Add rAugA := by
  intro pins s σ H x y v u Q I r1 r2 h
  exact (iop_add.or (iop_add_str.or iop_ext)) pins s σ H x y v u Q I r1 r2 h
theorem aug_I {op : Operator} {r : R2} (h : OpR X (inplaceOp op) r) : PIp X op r := fun pins s σ H x y v u Q I r1 r2 q => h pins s σ H x y v u Q I r1 r2 q
def fAugAdd (s t : T) (G : GH) : R T := match s with
  | .val (.int i) => match t with
    | .val (.int j) => .ok (.val (.int (i + j))) G
    | _ => .bad
  | .val (.str x) => match t with
    | .val (.str y) => if x.length + y.length ≤ 16777216 then .ok (.val (.str (x ++ y))) G else .bad
    | _ => .bad
  | s => match lstAt s G, wrl t G with
    | some (n, us), some ws => if us.length + ws.length ≤ 16777216 then .ok (.val (.loc n)) (G.set n (.lst (us ++ ws))) else .bad
    | _, _ => .bad
theorem says_augAdd : Says2 X ca rAugA fAugAdd := by
  intro Wx σ ρ G H H0 x y s t Q r qx qy hp
  unfold fAugAdd at hp
  split at hp
  · split at hp
    · cases qx; cases qy
      exact .inl ⟨_, _, rfl, rfl, hp ρ H .refl r _ (.int _)⟩
    · exact hp.elim
  · split at hp
    · split at hp
      · rename_i z
        cases qx; cases qy
        exact .inr (.inl ⟨_, _, rfl, rfl, by rw [sizeLine_eq]; exact z, hp ρ H .refl r _ (.str _)⟩)
      · exact hp.elim
    · exact hp.elim
  · split at hp
    · rename_i n us ws e1 e2
      split at hp
      · rename_i z
        obtain ⟨a, vs, rfl, hn, ha, qa⟩ := lstAt_of r qx e1
        obtain ⟨b, vs2, rfl, hb, qb⟩ := wrl_of r qy e2
        exact .inr (.inr ⟨a, b, vs, vs2, rfl, rfl, ha, hb, by rw [sizeLine_eq, qa.length, qb.length]; exact z, hp ρ _ (.put hn) (r.put hn ha (relWs_app qa qb)) _ (.loc hn)⟩)
      · exact hp.elim
    · exact hp.elim
/-! slices -/
def tO (K : PySem.W.Frag) (ca : Nat → Addr) (Wx : WX) (m : M (Option Int)) : TO := fun σ H Q => ∃ ρ G τ, Rep K ca ρ G H ∧ RelS K ca ρ H σ τ ∧ Post K ca Wx σ ρ H (fun o _ _ H' => Q o H') (m τ G)
def mNoP : M (Option Int) := fun _ G => .ok none G
def mP (m : M T) : M (Option Int) := fun τ G => (m τ G).bind fun t G1 => match t with
  | .val (.int i) => .ok (some i) G1
  | _ => .bad
theorem PO.weak {X : Cx} {e : Option Expr} {t t' : TO} (h : PO X e t) (f : ∀ σ H Q, t' σ H Q → t σ H Q) : PO X e t' := ⟨fun pins s σ H Q I q => h.run pins s σ H Q I (f σ H Q q)⟩
theorem o_none : PO X none (tO X.K ca Wx mNoP) := PO.weak po_none fun σ H Q ⟨ρ, G, τ, r, s, h⟩ => h ρ H .refl r
theorem o_some {e : Expr} {m : M T} (h : PE X e (tE X.K ca Wx m)) : PO X (some e) (tO X.K ca Wx (mP m)) := PO.weak (po_some h) fun σ H Q ⟨ρ, G, τ, r, s, h⟩ => by
  refine tE.seq r s h fun t G1 ρ1 H1 v x1 r1 s1 q1 h1 => ?_
  split at h1
  · cases q1
    exact ⟨_, rfl, h1 ρ1 H1 .refl r1⟩
  · exact h1.elim
def cutW (xs : List W) (lo hi : Option Int) : List W := (xs.drop (HT.sIx xs.length 0 lo)).take (HT.sIx xs.length xs.length hi - HT.sIx xs.length 0 lo)
def fSl (t : T) (lo hi : Option Int) (G : GH) : R T := match t with
  | .val (.str z) => if z.length ≤ 16777216 then .ok (.val (.str (cutS z lo hi))) G else .bad
  | .val (.tup ws) => .ok (.val (.tup (cutW ws lo hi))) G
  | t => match rdl t G with
    | some ws => .ok (.tmp (cutW ws lo hi)) G
    | none => .bad
def mSl (m : M T) (l u : M (Option Int)) : M T := fun τ G => (m τ G).bind fun t G1 => (l τ G1).bind fun lo G2 => (u τ G2).bind fun hi G3 => fSl t lo hi G3
theorem relWs_cut {K : PySem.W.Frag} {ρ : List Addr} {H : Hp} {vs : List V} {ws : List W} (q : RelWs K ca ρ H vs ws) (lo hi : Option Int) : RelWs K ca ρ H (cutV vs lo hi) (cutW ws lo hi) := by
  have hl := q.length
  unfold cutV cutW
  rw [hl]
  refine relWs_of (by simp [hl]) fun i v w e1 e2 => ?_
  rw [List.getElem?_take] at e1 e2
  split at e1
  · rw [if_pos (by assumption)] at e2
    rw [List.getElem?_drop] at e1 e2
    exact paired_get q _ v w e1 e2
  · cases e1
theorem s_sl {e : Expr} {lo hi : Option Expr} {p2 : Pos} {m : M T} {l u : M (Option Int)} (he : PE X e (tE X.K ca Wx m)) (hl : PO X lo (tO X.K ca Wx l)) (hu : PO X hi (tO X.K ca Wx u)) : PE X (.Subscript e (.Slice lo hi none p2) pos) (tE X.K ca Wx (mSl m l u)) := by
  refine PE.weak (pe_slice (sl_list.or (sl_tupA.or sl_str)) he hl hu) fun σ H Q ⟨ρ, G, τ, r, s, h⟩ => ?_
  refine tE.seq r s h fun t G1 ρ1 H1 v x1 r1 s1 q1 h1 => ?_
  refine ⟨ρ1, G1, τ, r1, s1, (Post.bindX h1).imp fun lo G2 ρ2 H2 _ r2 ⟨x2, h2⟩ => ?_⟩
  have s2 := s1.ext r1 x2
  refine ⟨ρ2, G2, τ, r2, s2, (Post.bindX h2).imp fun hi G3 ρ3 H3 _ r3 ⟨x3, h3⟩ => ?_⟩
  have q3 := (q1.ext r1 x2).ext r2 x3
  unfold fSl at h3
  split at h3
  · cases q3
    split at h3
    · rename_i z
      exact .inr (.inr ⟨_, rfl, by rw [sizeLine_eq]; exact z, h3 ρ3 H3 .refl r3 _ (.str _)⟩)
    · exact h3.elim
  · have q3' := q3
    obtain ⟨a, vs, rfl, hv, qs⟩ := relW_tup q3
    refine .inr (.inl ⟨a, vs, rfl, hv, fun hw => ?_, fun _ p hp => h3 ρ3 _ (.laid hp) (r3.laid hp) _ (RelW.tup' (.of upd_same) (relWs_ext (relWs_cut qs lo hi) r3 (.laid hp)))⟩)
    rw [qs.length] at hw
    have e : ∀ ws : List W, HT.sIx ws.length 0 lo = 0 ∧ HT.sIx ws.length ws.length hi = ws.length → cutW ws lo hi = ws := fun ws hw => by
      unfold cutW
      rw [hw.1, hw.2, List.drop_zero, Nat.sub_zero, List.take_length]
    rw [e _ hw] at h3
    exact h3 ρ3 H3 .refl r3 _ q3'
  · cases e : rdl t G3 with
    | none => rw [e] at h3; exact h3.elim
    | some ws =>
      rw [e] at h3
      obtain ⟨a, vs, rfl, hv, qs⟩ := rdl_of r3 q3 e
      refine .inl ⟨a, vs, rfl, hv, fun p hp => h3 ρ3 _ (.laid hp) (r3.laid hp) _ ?_⟩
      exact (fresh_tmp r3 hp (relWs_cut qs lo hi)).back (x1.trans (x2.trans x3)) (.laid hp)
/-! constants of the module -/
structure KonW (K : PySem.W.Frag) (mg : Str → Option Value) (ca : Nat → Addr) (x : Str) (w : W) : Prop where
  ex : ∃ (u : Value) (v : V), mg x = some u ∧ RelV v u ∧ ∀ ρ H, RelW K ca ρ H v w
theorem s_glob {x : Str} {w : W} (hg : Gl X x) (k : KonW X.K X.mg ca x w) (hd : (x == ("__debug__" : Str)) = false := by decide) : PE X (.Name x pos) (tE X.K ca Wx (mC w)) := by
  obtain ⟨u, v, hm, rv, hw⟩ := k.ex
  exact s_const (pe_glob hg hm rv hd) hw
theorem hu_five {k : Nat} {A : Around} (hr : Room k A) : A.units + 65 < cLine := by have := hr.un; omega
end
/-! defs with defaults -/
section
variable {P : Program} {w : World} {K : PySem.W.Frag} {mg : Str → Option Value} {base : Heap} {ca : Nat → Addr}
theorem def_okD {x qual : Str} {params : Arguments} {body : List Stmt} {scope : Scope} {dvs : List V} {kws : List (Str × V)} {f : Addr} {fd : FuncData} {N ps : List Str} {k : Nat} {mb : MS} (F : FunD K x qual params body scope dvs kws f fd) (S : FnScope N ps scope)
    (hb : ∀ (cdv : Value) (A : Around) (outer : List Env) (s : Shared) (H : Hp) (E : XK), Room k (A.deeper (envOfC qual scope s.heap.objs.size f cdv)) →
      PSs (cxOf (L2N.CX P w) P w K mg base N qual scope f cdv A outer s H E) body (tS K ca (fun c d _ H => E c d H) mb)) :
    FnOk P w K mg base (L2N.CX P w) (k + 1) f fd ps (spM K ca ps.length (mDef N.length mb)) := by
  refine F.ok S (fun vs H Q E h => h.1) fun cdv A outer s H vs Q E hr h => ?_
  obtain ⟨hl, ρ, G, ws, r, q, h⟩ := h
  refine ⟨_, hb cdv A outer s H E hr, ρ, G, _, r, relS_start q, ?_⟩
  unfold mDef at h
  cases e : mb (ws.map some ++ List.replicate (N.length - ws.length) none) G with
  | nx τ G' => rw [e] at h; exact fun ρ' H' σ' x r' s' => h ρ' H' x r' .non .non
  | rt w G' => rw [e] at h; exact fun ρ' H' v x r' q' => h ρ' H' x r' v q'
  | ex c fs τ G' => rw [e] at h; exact fun ρ' H' d σ' x r' s' ef => h ρ' H' d x r' ef
  | bk τ G' => rw [e] at h; exact h.elim
  | ct τ G' => rw [e] at h; exact h.elim
  | bad => rw [e] at h; exact h.elim
end
/-! names of the built-ins -/
theorem bt_len : bootBuiltins "len" = some (.builtin "len") := by decide +kernel
theorem bt_all : bootBuiltins "all" = some (.builtin "all") := by decide +kernel
theorem bt_any : bootBuiltins "any" = some (.builtin "any") := by decide +kernel
theorem bt_sum : bootBuiltins "sum" = some (.builtin "sum") := by decide +kernel
theorem bt_divmod : bootBuiltins "divmod" = some (.builtin "divmod") := by decide +kernel
theorem bt_isinstance : bootBuiltins "isinstance" = some (.builtin "isinstance") := by decide +kernel
theorem bt_int : bootBuiltins "int" = some (.type "int") := by decide +kernel
theorem bt_bool : bootBuiltins "bool" = some (.type "bool") := by decide +kernel
theorem bt_str : bootBuiltins "str" = some (.type "str") := by decide +kernel
theorem bt_list : bootBuiltins "list" = some (.type "list") := by decide +kernel
theorem bt_tuple : bootBuiltins "tuple" = some (.type "tuple") := by decide +kernel
theorem bt_dict : bootBuiltins "dict" = some (.type "dict") := by decide +kernel
end Sy
set_option Elab.async false
set_option linter.all false
set_option maxRecDepth 100000
set_option maxHeartbeats 4000000
namespace Sy
open PySem PySem.Spec PyProof.Rows L2

/-! own exception classes: numbers c, their classes at ca c -/
inductive CK where
  | own (j : Nat) | ty (n : String)
deriving DecidableEq
def ckW : W → Option CK
  | .cls j => some (.own j)
  | .ty n => some (.ty n)
  | _ => none
def CK.val (ca : Nat → Addr) : CK → Value
  | .own j => .ref (ca j)
  | .ty n => .type n
abbrev ITab := List (Nat × CK × Bool)
abbrev XTab := List (Nat × Nat × Bool)
def isub (tab : ITab) (c : Nat) (k : CK) : Option Bool := (tab.find? fun e => decide (e.1 = c) && decide (e.2.1 = k)).map fun e => e.2.2
def xsub (tab : XTab) (c j : Nat) : Option Bool := (tab.find? fun e => decide (e.1 = c) && decide (e.2.1 = j)).map fun e => e.2.2
/-- a class that may be raised -/
structure ExW (K : PySem.W.Frag) (mg : Str → Option Value) (ca : Nat → Addr) (x : Str) (c : Nat) : Prop where
  gC : mg x = some (.ref (ca c))
  q : PySem.W.excIn K (ca c) He.veBase "ValueError.__new__" = true
  kC : PySem.W.keepIn K (.ref (ca c)) = true
  s : PySem.W.subIn K (.ref (ca c)) (.type "BaseException") = some true
  t : PySem.W.typeIn K (.ref (ca c)) = some (.type "type")
structure Exs (K : PySem.W.Frag) (ca : Nat → Addr) (it : ITab) (xt : XTab) : Prop where
  isi : ∀ e ∈ it, PySem.W.kitOne K (.ref (ca e.1)) (e.2.1.val ca) = some e.2.2 ∧ ExcC K (ca e.1)
  exm : ∀ e ∈ xt, PySem.W.exmOne K (.ref (ca e.1)) (.ref (ca e.2.1)) = some e.2.2
theorem isub_mem {tab : ITab} {c : Nat} {k : CK} {b : Bool} (h : isub tab c k = some b) : (c, k, b) ∈ tab := by
  unfold isub at h
  cases e : tab.find? fun e => decide (e.1 = c) && decide (e.2.1 = k) with
  | none => rw [e] at h; cases h
  | some x =>
    rw [e] at h
    cases h
    have h1 := List.mem_of_find?_eq_some e
    have h2 := List.find?_some e
    rw [Bool.and_eq_true] at h2
    have h3 := of_decide_eq_true h2.1
    have h4 := of_decide_eq_true h2.2
    obtain ⟨a, b, c⟩ := x
    dsimp only at h3 h4
    subst h3; subst h4
    exact h1
theorem xsub_mem {tab : XTab} {c k : Nat} {b : Bool} (h : xsub tab c k = some b) : (c, k, b) ∈ tab := by
  unfold xsub at h
  cases e : tab.find? fun e => decide (e.1 = c) && decide (e.2.1 = k) with
  | none => rw [e] at h; cases h
  | some x =>
    rw [e] at h
    cases h
    have h1 := List.mem_of_find?_eq_some e
    have h2 := List.find?_some e
    rw [Bool.and_eq_true] at h2
    have h3 := of_decide_eq_true h2.1
    have h4 := of_decide_eq_true h2.2
    obtain ⟨a, b, c⟩ := x
    dsimp only at h3 h4
    subst h3; subst h4
    exact h1

/-! raise -/
def sRaise (c : Nat) : MS := fun τ G => .ex c [] τ G
section
variable {X : Cx} {ca : Nat → Addr} {Wx : WX} {pos : Pos}
theorem s_raise {x m : Str} {j c : Nat} {p p2 p3 : Pos} (hc : X.calm = true) (tk : L2N.Takes X Wx) (E : ExW X.K X.mg ca x c) (hg : Gl X x) (hdb : (x == ("__debug__" : Str)) = false := by decide) :
    PS X (.Raise (some (.Call (.Name x p) [.Constant (.str m) j p2] [] p3)) none pos) (tS X.K ca Wx (sRaise c)) := by
  refine PS.weak (L2N.ps_raise hc tk (L2N.pmk_own PySem.F.excBase_ValueError E.q E.gC E.kC (raises_own E.s E.t) hg hdb)) fun D σ H ⟨ρ, G, τ, r, s, h⟩ => ?_
  exact h ρ H none σ .refl r s rfl
/-! isinstance of the error that a suite, or a def called there, holds -/
/-- the context holds the error at a, of the class c -/
def Has (X : Cx) (ca : Nat → Addr) (c : Nat) (a : Addr) : Prop := X.A.handled = some (.ref a) ∧ ∃ oe : Obj, (a, oe) ∈ X.pn ∧ Zc (.ref (ca c)) none oe ∧ ∃ vs : Array Value, oe.data = .fields vs ∧ vs[2]? = some .none
/-- .. of a tuple of classes -/
def isubs (tab : ITab) (c : Nat) : List W → Option (List CK × Bool)
  | [] => some ([], false)
  | w :: ws => (ckW w).bind fun k => (isub tab c k).bind fun b => (isubs tab c ws).map fun p => (k :: p.1, b || p.2)
open Classical in
noncomputable def fIsE (it : ITab) (c : Nat) (a : Addr) (ts : List T) (G : GH) : R T := match ts with
  | [.val (.exn c' a'), .val k] => if c' = c ∧ a' = a then match (ckW k).bind (isub it c) with
      | some b => .ok (.val (.bl b)) G
      | none => match k with
        | .tup ws => match isubs it c ws with
          | some (_ :: _, b) => .ok (.val (.bl b)) G
          | some ([], _) => .bad
          | none => .bad
        | _ => .bad
    else .bad
  | _ => .bad
theorem ck_rel {K : PySem.W.Frag} {ρ : List Addr} {H : Hp} {w : W} {k : CK} {v : V} (h : ckW w = some k) (q : RelW K ca ρ H v w) : ∀ u, RelV v u → u = k.val ca := by
  cases w with
  | cls j => cases h; cases q; intro u r; exact r
  | ty n => cases h; cases q; intro u r; exact r
  | _ => cases h
theorem call_isX {c : Nat} {a : Addr} (C : ExcC X.K (ca c)) (hz : Has X ca c a) : CallR X (.builtin "isinstance") (rIsE X.K (ca c) a) := by
  intro pins s σ H xs us Q I r h
  obtain ⟨v, cv, b, rfl, hcv, e, q⟩ := h
  obtain ⟨_, oe, hm, hz, vs, hf, _⟩ := hz
  obtain ⟨u1, u2, rfl, r1, r2⟩ := vals2 r
  cases (show u1 = Value.ref a from r1)
  cases hcv _ r2
  have J : PySem.W.InstAt s.heap a oe (ca c) none := by
    have g := (I.pin (a, oe) (List.mem_append.mpr (.inl hm))).1
    obtain ⟨oc, od, oda, osl⟩ := oe
    obtain ⟨z1, z2⟩ := hz
    dsimp only at z1 z2 hf
    subst z1; subst z2; subst hf
    exact ⟨g, rfl, rfl, trivial⟩
  exact PySem.W.kia_one (PySem.W.handS_kitx_exc C.hg C.hk C.hs C.hd C.ha C.hn C.ht C.hm) I.kIn J e (fun z => nomatch z) fun tk => ⟨.bl b, H, I.kept (t' := tk) fun _ _ z => z, rfl, q⟩
/-- isinstance(e, (c1, c2, ..)) -/
def rIsT (K : PySem.W.Frag) (D a : Addr) : List V → Hp → VK → Prop := fun xs H Q => ∃ (tp : Addr) (vs : List V) (us : List Value) (b : Bool), xs = [.ref a, .ref tp] ∧ SqT K H tp vs ∧ (∀ its, Vals vs its → its = us) ∧ PySem.W.kitAny K (.ref D) us = some b ∧ Q (.bl b) H
def rIsB (K : PySem.W.Frag) (D a : Addr) : List V → Hp → VK → Prop := fun xs H Q => rIsE K D a xs H Q ∨ rIsT K D a xs H Q
theorem inst_of {c : Nat} {a : Addr} {pins : List (Addr × Obj)} {s : Shared} {σ : List (Option V)} {H : Hp} (I : L2.Inv X pins σ H s) (hz : Has X ca c a) : ∃ oe, PySem.W.InstAt s.heap a oe (ca c) none := by
  obtain ⟨_, oe, hm, hz, vs, hf, _⟩ := hz
  refine ⟨oe, ?_⟩
  have g := (I.pin (a, oe) (List.mem_append.mpr (.inl hm))).1
  obtain ⟨oc, od, oda, osl⟩ := oe
  obtain ⟨z1, z2⟩ := hz
  dsimp only at z1 z2 hf
  subst z1; subst z2; subst hf
  exact ⟨g, rfl, rfl, trivial⟩
theorem call_isXT {c : Nat} {a : Addr} (C : ExcC X.K (ca c)) (hz : Has X ca c a) : CallR X (.builtin "isinstance") (rIsT X.K (ca c) a) := by
  intro pins s σ H xs us Q I r h
  obtain ⟨tp, vs, ws, b, rfl, hT, hv, e, q⟩ := h
  obtain ⟨u1, u2, rfl, r1, r2⟩ := vals2 r
  cases (show u1 = Value.ref a from r1)
  cases (show u2 = Value.ref tp from r2)
  obtain ⟨oe, J⟩ := inst_of I hz
  obtain ⟨its, rv, ⟨o, h1, h2, n, h3⟩, _⟩ := I.tuple hT
  have e3 := hv its rv
  subst e3
  obtain ⟨oc, od, dt, sl⟩ := o
  dsimp only at h2 h3
  subst h2
  subst h3
  exact PySem.W.kia_tup (PySem.W.handS_kitx_exc C.hg C.hk C.hs C.hd C.ha C.hn C.ht C.hm) I.kIn J h1 e (fun z => nomatch z) fun tk => ⟨.bl b, H, I.kept (t' := tk) fun _ _ z => z, rfl, q⟩
theorem isubs_any {K : PySem.W.Frag} {tab : ITab} {c : Nat} (hm : ∀ e ∈ tab, PySem.W.kitOne K (.ref (ca e.1)) (e.2.1.val ca) = some e.2.2) : ∀ {ws : List W} {ks : List CK} {r : Bool}, isubs tab c ws = some (ks, r) → PySem.W.kitAny K (.ref (ca c)) (ks.map (CK.val ca)) = some r
  | [], ks, r, h => by
    cases h
    exact kitAny_nil
  | w :: ws, ks, r, h => by
    unfold isubs at h
    cases e : ckW w with
    | none => rw [e] at h; cases h
    | some k =>
      rw [e, Option.bind_some] at h
      cases e2 : isub tab c k with
      | none => rw [e2] at h; cases h
      | some b =>
        rw [e2, Option.bind_some] at h
        cases e3 : isubs tab c ws with
        | none => rw [e3] at h; cases h
        | some p =>
          rw [e3] at h
          obtain ⟨ks', r'⟩ := p
          cases h
          have h1 : PySem.W.kitOne K (.ref (ca c)) (k.val ca) = some b := hm _ (isub_mem e2)
          exact kitAny_cons h1 (fun z => by rw [z]; exact isubs_any hm e3) (fun z => by rw [z]; rfl)
theorem isubs_rel {K : PySem.W.Frag} {ρ : List Addr} {H : Hp} {tab : ITab} {c : Nat} : ∀ {ws : List W} {vs : List V} {ks : List CK} {r : Bool}, isubs tab c ws = some (ks, r) → RelWs K ca ρ H vs ws → ∀ its, Vals vs its → its = ks.map (CK.val ca)
  | [], _, ks, r, h, .nil, its, hi => by
    cases h
    cases hi
    rfl
  | w :: ws, _, ks, r, h, .cons q t, its, hi => by
    unfold isubs at h
    cases e : ckW w with
    | none => rw [e] at h; cases h
    | some k =>
      rw [e, Option.bind_some] at h
      cases e2 : isub tab c k with
      | none => rw [e2] at h; cases h
      | some b =>
        rw [e2, Option.bind_some] at h
        cases e3 : isubs tab c ws with
        | none => rw [e3] at h; cases h
        | some p =>
          rw [e3] at h
          obtain ⟨ks', r'⟩ := p
          cases h
          cases hi with
          | cons r1 r2 =>
            rw [ck_rel e q _ r1, isubs_rel e3 t _ r2]
            rfl
theorem isubs_mem {tab : ITab} {c : Nat} {ws : List W} {k : CK} {ks : List CK} {r : Bool} (h : isubs tab c ws = some (k :: ks, r)) : ∃ b, (c, k, b) ∈ tab := by
  cases ws with
  | nil => cases h
  | cons w ws =>
    unfold isubs at h
    cases e : ckW w with
    | none => rw [e] at h; cases h
    | some k' =>
      rw [e, Option.bind_some] at h
      cases e2 : isub tab c k' with
      | none => rw [e2] at h; cases h
      | some b =>
        rw [e2, Option.bind_some] at h
        cases e3 : isubs tab c ws with
        | none => rw [e3] at h; cases h
        | some p =>
          rw [e3] at h
          obtain ⟨ks', r'⟩ := p
          cases h
          exact ⟨b, isub_mem e2⟩
theorem says_isE {it : ITab} {xt : XTab} {c : Nat} {a : Addr} (E : Exs X.K ca it xt) : SaysC X ca (fun xs H Q => ExcC X.K (ca c) ∧ rIsB X.K (ca c) a xs H Q) (fIsE it c a) := by
  intro Wx σ ρ G H H0 xs ts Q r q h
  unfold fIsE at h
  split at h
  · rename_i c' a' k
    split at h
    · rename_i z
      obtain ⟨rfl, rfl⟩ := z
      obtain ⟨v, u, rfl, qv, qu⟩ := relTs_two q
      cases qv
      split at h
      · rename_i b e
        cases e1 : ckW k with
        | none => rw [e1] at e; cases e
        | some ck =>
          rw [e1, Option.bind_some] at e
          obtain ⟨k1, k2⟩ := E.isi _ (isub_mem e)
          exact ⟨k2, .inl ⟨u, _, b, rfl, ck_rel e1 qu, k1, h ρ H .refl r _ (.bl _)⟩⟩
      · split at h
        · rename_i ws
          split at h
          · rename_i ws k ks b e2
            cases qu with
            | tup hT hl hall =>
              obtain ⟨b', hb'⟩ := isubs_mem e2
              exact ⟨(E.isi _ hb').2, .inr ⟨_, _, _, b, rfl, hT, isubs_rel e2 (relWs_of hl hall), isubs_any (fun e he => (E.isi e he).1) e2, h ρ H .refl r _ (.bl _)⟩⟩
          · exact h.elim
          · exact h.elim
        · exact h.elim
    · exact h.elim
  · exact h.elim
theorem call_isX' {c : Nat} {a : Addr} (hz : Has X ca c a) : CallR X (.builtin "isinstance") (fun xs H Q => ExcC X.K (ca c) ∧ rIsB X.K (ca c) a xs H Q) :=
  fun pins s σ H xs us Q I r h => by
    rcases h.2 with h2 | h2
    · exact call_isX h.1 hz pins s σ H xs us Q I r h2
    · exact call_isXT h.1 hz pins s σ H xs us Q I r h2

/-! try .. except x as n -/
/-- an outcome that is the same whatever address the error has -/
noncomputable def pick (f : Addr → RS) : RS := open Classical in if h : ∃ r, ∀ a, f a = r then choose h else .bad
theorem pick_eq {f : Addr → RS} {r : RS} (h : ∀ a, f a = r) : pick f = r := by
  unfold pick
  have e : ∃ r, ∀ a, f a = r := ⟨r, h⟩
  rw [dif_pos e]
  exact (Classical.choose_spec e 0).symm.trans (h 0)
theorem pick_at {f : Addr → RS} (h : pick f ≠ .bad) (a : Addr) : f a = pick f := by
  unfold pick at h ⊢
  split at h
  · rename_i e
    rw [dif_pos e]
    exact Classical.choose_spec e a
  · exact absurd rfl h
/-- the name is gone behind the suite -/
def RS.unS (i : Nat) : RS → RS
  | .nx τ G => .nx (τ.set i none) G
  | .bk τ G => .bk (τ.set i none) G
  | .ct τ G => .ct (τ.set i none) G
  | .rt w G => .rt w G
  | _ => .bad
noncomputable def sTry (xt : XTab) (C i : Nat) (mb : MS) (ms : Nat → Addr → MS) : MS := fun τ G => match mb τ G with
  | .ex c fs τ1 G1 => match fs with
    | [] => match xsub xt c C with
      | some true => pick fun a => (ms c a (τ1.set i (some (.exn c a))) G1).unS i
      | some false => .ex c [] τ1 G1
      | none => .bad
    | _ :: _ => .bad
  | r => r
theorem exF_nil {K : PySem.W.Frag} {ρ : List Addr} {H : Hp} {d : Option Addr} (h : ExF K ca ρ H d []) : d = none := by
  cases d with
  | none => rfl
  | some d => exact absurd rfl h.1
def unE (i : Nat) (D : Ends) : Ends := { nx := fun σ' H' => D.nx (σ'.set i none) H', rt := D.rt, bk := fun σ' H' => D.bk (σ'.set i none) H', ct := fun σ' H' => D.ct (σ'.set i none) H' }
theorem unS_post {K : PySem.W.Frag} {i : Nat} {D : Ends} {ρ : List Addr} {H : Hp} {r : RS} (h : PostS K ca Wx D ρ H (r.unS i)) : PostS K ca wF (unE i D) ρ H r := by
  cases r with
  | nx τ G => exact fun ρ' H' σ' x r s => h ρ' H' _ x r (s.unset i)
  | bk τ G => exact fun ρ' H' σ' x r s => h ρ' H' _ x r (s.unset i)
  | ct τ G => exact fun ρ' H' σ' x r s => h ρ' H' _ x r (s.unset i)
  | rt w G => exact h
  | ex c fs τ G => exact h.elim
  | bad => exact h.elim
theorem PSs.any {X : Cx} {ss : List Stmt} {ι : Type} {P : ι → Prop} {t : ι → TS} (h : ∀ c, P c → PSs X ss (t c)) : PSs X ss (fun D σ H => ∃ c, P c ∧ t c D σ H) :=
  ⟨fun pins s σ H D I ⟨c, hc, q⟩ => (h c hc).run pins s σ H D I q⟩
theorem s_try {x n : Str} {C i : Nat} {it : ITab} {xt : XTab} {body suite : List Stmt} {b₀ : Stmt} {np pos' : Pos} {mb : MS} {ms : Nat → Addr → MS} (E : Exs X.K ca it xt) (hs : X.stack = X.env :: X.outer) (hf : X.env.frame = some X.env.locals) (hN : X.N.Nodup) (hi : X.N[i]? = some n)
    (hln : X.env.kindOf n = some .local) (hc : Names X x (.ref (ca C))) (tk : L2N.Takes X Wx)
    (hb : ∀ (W : WX) (pn : List (Addr × Obj)) (xe : Value → Shared → Prop), L2N.Takes (X.tr pn xe) W → PassesOwn (model X.prog X.w) X.A X.env xe → PSs (X.tr pn xe) body (tS X.K ca W mb))
    (hsu : ∀ (c : Nat) (a : Addr) (oe : Obj) (pn : List (Addr × Obj)), Has (X.suite a ((a, oe) :: pn)) ca c a → PSs (X.suite a ((a, oe) :: pn)) (b₀ :: suite) (tS X.K ca wF (ms c a))) :
    PS X (.Try body [.ExceptHandler (some (.Name x np)) (some n) (b₀ :: suite) pos'] [] [] pos) (tS X.K ca Wx (sTry xt C i mb ms)) := by
  refine PS.weak (L2N.ps_try_as (ts := fun a cls d D σ H => ∃ c, (cls = .ref (ca c) ∧ d = none) ∧ tS X.K ca wF (ms c a) D σ H) (tb := fun W => tS X.K ca W mb) hs hf hN hi hln hc tk hb (fun a oe cls d pn hz hfd => ?_)) fun D σ H ⟨ρ, G, τ, r, s, h⟩ => ?_
  · refine PSs.any fun c hcd => ?_
    obtain ⟨rfl, rfl⟩ := hcd
    obtain ⟨vs, hf⟩ := hfd
    exact hsu c a oe pn ⟨rfl, oe, List.mem_cons_self, hz.zc, vs, hf, hz.2.2 vs hf⟩
  · refine ⟨ρ, G, τ, r, s, ?_⟩
    unfold sTry at h
    cases e : mb τ G with
    | nx τ1 G1 => rw [e] at h; exact h
    | rt w G1 => rw [e] at h; exact h
    | bk τ1 G1 => rw [e] at h; exact h
    | ct τ1 G1 => rw [e] at h; exact h
    | bad => rw [e] at h; exact h
    | ex c fs τ1 G1 =>
      rw [e] at h
      cases fs with
      | cons f fs => exact h.elim
      | nil =>
        dsimp only at h
        cases e2 : xsub xt c C with
        | none => rw [e2] at h; exact h.elim
        | some b =>
          rw [e2] at h
          have k := E.exm _ (xsub_mem e2)
          intro ρ1 H1 d σ1 x1 r1 s1 ef
          have hd := exF_nil ef
          subst hd
          cases b with
          | false => exact ⟨false, k, fun z => Bool.noConfusion z, fun _ => h ρ1 H1 none σ1 x1 r1 s1 ef⟩
          | true =>
            refine ⟨true, k, fun _ a ha => ⟨c, ⟨rfl, rfl⟩, ρ1, G1, τ1.set i (some (.exn c a)), r1, s1.set i (.exn c a), ?_⟩, fun z => Bool.noConfusion z⟩
            have h2 : PostS X.K ca Wx D ρ H (pick fun a => (ms c a (τ1.set i (some (.exn c a))) G1).unS i) := h
            have nb : (pick fun a => (ms c a (τ1.set i (some (.exn c a))) G1).unS i) ≠ .bad := fun z => by rw [z] at h2; exact h2
            rw [← pick_at nb a] at h2
            exact PostS.later (unS_post h2) x1

/-! {} -/
theorem Rep.takeO {K : PySem.W.Frag} {ρ : List Addr} {G : GH} {H : Hp} (r : Rep K ca ρ G H) {p : Addr} {o : GO} (hn : p ∉ ρ) (ho : ObjR K ca ρ H p o) : Rep K ca (ρ ++ [p]) (G ++ [o]) H := by
  have pre : ∀ (n : Nat) a, ρ[n]? = some a → (ρ ++ [p])[n]? = some a := fun n a e => by
    rw [List.getElem?_append_left (List.getElem?_eq_some_iff.mp e).1]; exact e
  refine ⟨by simp [r.len], ?_, fun n a u e1 e2 => ?_⟩
  · rw [List.nodup_append]
    refine ⟨r.nd, by simp, fun a ha b hb e => ?_⟩
    have : b = p := by simpa using hb
    exact hn (by rw [← this, ← e]; exact ha)
  · by_cases hl : n < ρ.length
    · rw [List.getElem?_append_left hl] at e1
      rw [List.getElem?_append_left (by rw [← r.len]; exact hl)] at e2
      exact objR_mono (r.obj n a u e1 e2) pre Stay.refl rfl
    · have hl2 : ρ.length ≤ n := Nat.le_of_not_lt hl
      rw [List.getElem?_append_right hl2] at e1
      rw [List.getElem?_append_right (by rw [← r.len]; exact hl2), ← r.len] at e2
      cases h0 : n - ρ.length with
      | zero =>
        rw [h0] at e1 e2
        simp at e1 e2
        subst e1; subst e2
        exact objR_mono ho pre Stay.refl rfl
      | succ k =>
        rw [h0] at e1
        simp at e1
def mDict0 : M T := fun _ G => .ok (.val (.loc G.length)) (G ++ [.dK []])
theorem s_dict0 : PE X (.Dict [] [] pos) (tE X.K ca Wx mDict0) := by
  refine PE.weak pe_dnewK fun σ H Q ⟨ρ, G, τ, r, s, h⟩ => ?_
  intro p hp
  have r1 : Rep X.K ca ρ G (upd H p (.dK [])) := r.laid hp
  refine h (ρ ++ [p]) (upd H p (.dK [])) ((Ext.laid hp).take hp) (r1.takeO (r.fresh hp) ⟨[], upd_same, .nil⟩) (.ref p) (.loc ?_)
  rw [← r.len]
  simp
/-! a class of the module as a value -/
theorem konW_cls {K : PySem.W.Frag} {mg : Str → Option Value} {x : Str} {c : Nat} (h : mg x = some (.ref (ca c))) : KonW K mg ca x (.cls c) := ⟨_, .ref (ca c), h, rfl, fun _ _ => .cls c⟩
/-! more built-ins -/
def fMin (ts : List T) (G : GH) : R T := match ts with
  | [.val (.int i), .val (.int j)] => .ok (.val (.int (if j < i then j else i))) G
  | _ => .bad
def fMax (ts : List T) (G : GH) : R T := match ts with
  | [.val (.int i), .val (.int j)] => .ok (.val (.int (if j > i then j else i))) G
  | _ => .bad
def fAbs (ts : List T) (G : GH) : R T := match ts with
  | [.val (.int i)] => .ok (.val (.int (if i < 0 then -i else i))) G
  | _ => .bad
def fStr (ts : List T) (G : GH) : R T := match ts with
  | [.val (.int i)] => if i.natAbs.log2 < 1920 then .ok (.val (.str (toString i))) G else .bad
  | _ => .bad
theorem says_min : SaysC X ca (fun xs H Q => ∃ i j, xs = [.int i, .int j] ∧ Q (.int (if j < i then j else i)) H) fMin := by
  intro Wx σ ρ G H H0 xs ts Q r q h
  unfold fMin at h
  split at h
  · obtain ⟨v, u, rfl, qv, qu⟩ := relTs_two q
    cases qv; cases qu
    exact ⟨_, _, rfl, h ρ H .refl r _ (.int _)⟩
  · exact h.elim
theorem says_max : SaysC X ca (fun xs H Q => ∃ i j, xs = [.int i, .int j] ∧ Q (.int (if j > i then j else i)) H) fMax := by
  intro Wx σ ρ G H H0 xs ts Q r q h
  unfold fMax at h
  split at h
  · obtain ⟨v, u, rfl, qv, qu⟩ := relTs_two q
    cases qv; cases qu
    exact ⟨_, _, rfl, h ρ H .refl r _ (.int _)⟩
  · exact h.elim
theorem says_abs : SaysC X ca (fun xs H Q => ∃ i, xs = [.int i] ∧ Q (.int (if i < 0 then -i else i)) H) fAbs := by
  intro Wx σ ρ G H H0 xs ts Q r q h
  unfold fAbs at h
  split at h
  · obtain ⟨v, rfl, qv⟩ := relTs_one q
    cases qv
    exact ⟨_, rfl, h ρ H .refl r _ (.int _)⟩
  · exact h.elim
theorem says_strI : SaysC X ca (fun xs H Q => ∃ i, xs = [.int i] ∧ i.natAbs.log2 < 1920 ∧ Q (.str (toString i)) H) fStr := by
  intro Wx σ ρ G H H0 xs ts Q r q h
  unfold fStr at h
  split at h
  · obtain ⟨v, rfl, qv⟩ := relTs_one q
    cases qv
    split at h
    · rename_i z
      exact ⟨_, rfl, z, h ρ H .refl r _ (.str _)⟩
    · exact h.elim
  · exact h.elim
theorem bt_min : bootBuiltins "min" = some (.builtin "min") := by decide +kernel
theorem bt_max : bootBuiltins "max" = some (.builtin "max") := by decide +kernel
theorem bt_abs : bootBuiltins "abs" = some (.builtin "abs") := by decide +kernel
theorem bt_ValueError : bootBuiltins "ValueError" = some (.type "ValueError") := by decide +kernel
end
end Sy
set_option Elab.async false
set_option linter.all false
set_option maxRecDepth 100000
set_option maxHeartbeats 4000000
namespace Sy
open PySem PySem.Spec PyProof.Rows L2
theorem takesN {X : Cx} : L2N.Takes X wF := fun u s' h => by
  obtain ⟨_, _, _, _, _, _, _, _, _, _, _, _, _, _, _, _, w⟩ := h
  exact w.elim
/-! defs that are called where an error is handled, and are handed it -/
structure FnX (P : Program) (w : World) (K : PySem.W.Frag) (mg : Str → Option Value) (base : Heap) (ca : Nat → Addr) (k : Nat) (f : Addr) (fd : FuncData) (ps : List Str) (sp : Nat → Addr → Sp) : Prop where
  ln : ∀ c a vs H Q E, sp c a vs H Q E → vs.length = ps.length
  go : ∀ (A : Around) (out : List Env) (s : Shared) (H : Hp) (us : List Value) (vs : List V) (Q : VK) (E : XK) (p : Addr × Obj) (c : Nat), L2H.RoomH k A → L2H.Hot1 A p → L2H.PinOk out H s p → Zc (.ref (ca c)) none p.2 →
    Env0 P w K mg base A out s H → BindsTo s fd ⟨us, []⟩ (ps.zip us) → Vals vs us → sp c p.1 vs H Q E → codeAny (model P w) A (.call (.ref f) ⟨us, []⟩) (CR (L2N.CX P w) out P w H s Q E) s
section
variable {P : Program} {w : World} {K : PySem.W.Frag} {mg : Str → Option Value} {base : Heap} {ca : Nat → Addr}
theorem fnX_of {x qual : Str} {params : Arguments} {body : List Stmt} {scope : Scope} {f : Addr} {fd : FuncData} {N ps : List Str} {k : Nat} {sp : Nat → Addr → Sp} (F : FunD K x qual params body scope [] [] f fd) (S : FnScope N ps scope)
    (ln : ∀ c a vs H Q E, sp c a vs H Q E → vs.length = ps.length)
    (hb : ∀ (cdv : Value) (A : Around) (out : List Env) (s : Shared) (H : Hp) (vs : List V) (Q : VK) (E : XK) (p : Addr × Obj) (c : Nat), L2H.Hot1 A p → Zc (.ref (ca c)) none p.2 → L2H.RoomH k (A.deeper (envOfC qual scope s.heap.objs.size f cdv)) → sp c p.1 vs H Q E →
      ∃ t, PSs (L2H.cxH (L2N.CX P w) P w K mg base N qual scope f cdv A out s H E p) body t ∧ t { nx := fun _ H2 => Q .non H2, rt := Q } (L2.start N vs) H) :
    FnX P w K mg base ca (k + 1) f fd ps sp := by
  obtain ⟨oc, od, dV, kV, doc, pm, an, cdv, ct, osl, rfl, lk, cd, _, _⟩ := F.ex
  refine ⟨ln, fun A out s H us vs Q E p c rm hot pin zc env bd rel sat => ?_⟩
  have hlen := ln _ _ _ _ _ _ sat
  have stay : ∀ b o, base.get? b = some o → s.heap.get? b = some o := fun b o z => (env.bs b o z).1
  have inK : K.In s.heap := env.mod.kin.keeps stay
  have nolim : s.heap.NoLimit := env.mod.nolimit.keeps stay
  have kinds : ∀ y ∈ ps.zip us, scope.names.lookup y.1 = some .local ∨ (scope.names.lookup y.1 = some .cell ∧ ((cellsFrom (s.heap.objs.size + 1) scope.names []).lookup y.1).isSome = true) := by
    rintro ⟨n, u⟩ hy
    rcases S.par n (List.of_mem_zip hy).1 with z | z
    · exact .inl z
    · exact .inr ⟨z, PySem.W.cellsFrom_some _ _ _ (.inl z)⟩
  refine codeAny_call_function rm.depth (inK _ _ lk) rfl S.co S.gen rfl (PySem.W.codeRec_of inK cd) (bd _ _ _ _ ?_)
  refine wpAny_newFunctionEnv_cells S.kind kinds fun env2 he s1 ic => ?_
  subst he
  refine ⟨nolim.keeps ic.toInCall.keep, codeAny_func ?_⟩
  obtain ⟨t, ht, hq⟩ := hb cdv A out s H vs Q E p c hot zc (rm.deeper _) sat
  have inv : Inv (L2H.cxH (L2N.CX P w) P w K mg base N qual scope f cdv A out s H E p) [] (L2.start N vs) H s1 := L2H.inv_startH S pin env hlen rel ic
  refine wpAny_mono (ht.run [] s1 (L2.start N vs) H _ inv hq) (fun fl s2 z => ?_) fun _ _ z => z
  have done : ∀ {σ2 : SSt} {H2 : Hp} {v : V} {u : Value}, Inv (L2H.cxH (L2N.CX P w) P w K mg base N qual scope f cdv A out s H E p) [] σ2 H2 s2 → RelV v u → Q v H2 → CE out P w H s Q u s2 := by
    intro σ2 H2 v u J rv q
    exact ⟨v, H2, J.os, J.bare, J.base, J.hok, rv, q⟩
  cases fl with
  | next => obtain ⟨σ2, H2, J, q⟩ := z; exact done (v := V.non) (u := Value.none) J rfl q
  | ret u => obtain ⟨v, σ2, H2, J, rv, q⟩ := z; exact done J rv q
  | cont => obtain ⟨_, _, _, q⟩ := z; exact q.elim
  | brk => obtain ⟨_, _, _, q⟩ := z; exact q.elim
theorem has_hot {X : Cx} {p : Addr × Obj} {c : Nat} {A : Around} (h : L2H.Hot1 A p) (hA : X.A.handled = A.handled) (hp : p ∈ X.pn) (hz : Zc (.ref (ca c)) none p.2) : Has X ca c p.1 := by
  obtain ⟨h1, vs, h2, h3⟩ := h
  exact ⟨hA.trans h1, p.2, hp, hz, vs, h2, h3⟩
/-- a def, handed the error, that does what m does -/
theorem def_okX {x qual : Str} {params : Arguments} {body : List Stmt} {scope : Scope} {f : Addr} {fd : FuncData} {N ps : List Str} {k : Nat} {mb : Nat → Addr → MS} (F : FunD K x qual params body scope [] [] f fd) (S : FnScope N ps scope)
    (hb : ∀ (cdv : Value) (A : Around) (out : List Env) (s : Shared) (H : Hp) (E : XK) (p : Addr × Obj) (c : Nat), L2H.RoomH k (A.deeper (envOfC qual scope s.heap.objs.size f cdv)) → Has (L2H.cxH (L2N.CX P w) P w K mg base N qual scope f cdv A out s H E p) ca c p.1 →
      PSs (L2H.cxH (L2N.CX P w) P w K mg base N qual scope f cdv A out s H E p) body (tS K ca (fun c d _ H => E c d H) (mb c p.1))) :
    FnX P w K mg base ca (k + 1) f fd ps (fun c a => spM K ca ps.length (mDef N.length (mb c a))) := by
  refine fnX_of F S (fun c a vs H Q E h => h.1) fun cdv A out s H vs Q E p c hot zc hr h => ?_
  obtain ⟨hl, ρ, G, ws, r, q, h⟩ := h
  refine ⟨_, hb cdv A out s H E p c hr (has_hot hot rfl List.mem_cons_self zc), ρ, G, _, r, relS_start q, ?_⟩
  unfold mDef at h
  cases e : mb c p.1 (ws.map some ++ List.replicate (N.length - ws.length) none) G with
  | nx τ G' => rw [e] at h; exact fun ρ' H' σ' x r' s' => h ρ' H' x r' .non .non
  | rt w G' => rw [e] at h; exact fun ρ' H' v x r' q' => h ρ' H' x r' v q'
  | ex c fs τ G' => rw [e] at h; exact fun ρ' H' d σ' x r' s' ef => h ρ' H' d x r' ef
  | bk τ G' => rw [e] at h; exact h.elim
  | ct τ G' => rw [e] at h; exact h.elim
  | bad => rw [e] at h; exact h.elim
structure CallX (P : Program) (w : World) (K : PySem.W.Frag) (mg : Str → Option Value) (base : Heap) (ca : Nat → Addr) (k : Nat) (x : Str) (ps : List Str) (m : Nat → Addr → List W → GH → R W) : Prop where
  ex : ∃ (f : Addr) (fd : FuncData), mg x = some (.ref f) ∧ PySem.W.keepIn K (.ref f) = true ∧ Binds K fd ps [] ∧ FnX P w K mg base ca k f fd ps (fun c a => spM K ca ps.length (m c a))
theorem callX_mk {k : Nat} {x : Str} {ps : List Str} {m : Nat → Addr → List W → GH → R W} {f : Addr} {fd : FuncData} (hm : mg x = some (.ref f)) (kp : PySem.W.keepIn K (.ref f) = true) (b : Binds K fd ps []) (F : FnX P w K mg base ca k f fd ps (fun c a => spM K ca ps.length (m c a))) :
    CallX P w K mg base ca k x ps m := ⟨f, fd, hm, kp, b, F⟩
end
section
variable {X : Cx} {ca : Nat → Addr} {pos : Pos}
theorem run_X {pins : List (Addr × Obj)} {σ : SSt} {H : Hp} {s : Shared} {Q : VK} {us : List Value} {vs : List V} {k : Nat} {f : Addr} {fd : FuncData} {ps : List Str} {sp : Nat → Addr → Sp} {c : Nat} {a : Addr}
    (F : FnX X.prog X.w X.K X.mg X.base ca k f fd ps sp) (hr : L2H.RoomH k X.A) (hx : Has X ca c a) (hb : Binds X.K fd ps []) (inv : Inv X pins σ H s) (rel : Vals vs us) (h : sp c a vs H Q (WE wF σ)) :
    wpAny (model X.prog X.w) X.A (call (.ref f) us) (EP X pins σ Q) X.xe s := by
  obtain ⟨hh, oe, hm, hz, fs, hf, h2⟩ := hx
  have hlu : us.length = ps.length := rel.length.symm.trans (F.ln _ _ _ _ _ _ h)
  have bd := hb s us inv.kIn (by rw [List.append_nil]; exact hlu)
  rw [List.append_nil] at bd
  have pn := inv.pin (a, oe) (List.mem_append_left _ hm)
  have pok : L2H.PinOk X.stack H s (a, oe) := by
    refine ⟨pn.1, pn.2.1, fun z => ?_, pn.2.2.2.2⟩
    rcases List.mem_cons.mp (inv.stkSub a z) with z | z
    · exact pn.2.2.1 z
    · exact pn.2.2.2.1 z
  refine wpAny_call (codeAny_mono (F.go X.A X.stack s H us vs Q (WE wF σ) (a, oe) c hr ⟨hh, fs, hf, h2⟩ pok hz inv.env0 bd rel h) fun res s2 z => ?_)
  cases res with
  | error e => exact L2N.passAt (W := wF) takesN σ pins H s e s2 inv z
  | ok fl =>
    cases fl with
    | ret u => exact inv.after z
    | next => exact z.elim
    | brk => exact z.elim
    | cont => exact z.elim
theorem s_callX {x : Str} {p : Pos} {k : Nat} {ps : List Str} {m : Nat → Addr → List W → GH → R W} {e : Expr} {es : List Expr} {ma : M (List W)} {c : Nat} {a : Addr} (C : CallX X.prog X.w X.K X.mg X.base ca k x ps m) (hr : L2H.RoomH k X.A) (hx : Has X ca c a) (hg : Gl X x)
    (ha : PA X (e :: es) (tA X.K ca wF ma)) (hn : ∀ ws τ G G1, ma τ G = .ok ws G1 → (ws ++ []).length = ps.length) (hdb : (x == ("__debug__" : Str)) = false := by decide)
    (he : starEach (e :: es) X.env = (false, eval e X.env) :: starEach es X.env := by rfl) (hpl : (backTo pos (starEach es X.env)).any (·.1) = false := by rfl) :
    PE X (.Call (.Name x p) (e :: es) [] pos) (tE X.K ca wF (mCall (m c a) [] ma)) := by
  obtain ⟨f, fd, gm, kp, b, F⟩ := C.ex
  refine ⟨fun pins s σ H Q inv h => ?_⟩
  have h2 := call_in (X := X) (Wx := wF) (dvs := []) (dws := []) (n := ps.length) (m := m c a) (fun _ _ => .nil) hn h
  refine wpAny_Call_Name_kw (ld_glob inv hg gm ?_ hdb)
  refine PySem.W.callWith_K (h₀ := X.base) inv.ok.mod.kin kp (thn (ha.run pos pins s σ H _ inv h2) fun us s1 z => ?_) he hpl
  obtain ⟨vs, H1, inv1, rel, q⟩ := z
  rw [List.append_nil] at q
  exact ⟨inv1.kIn, run_X F hr hx b inv1 rel q⟩
end
theorem roomX {k j : Nat} {A : Around} (r : Room k A) (h : Option Value) (hj : j ≤ k) : L2H.RoomH j (A.mark h) := ⟨(r.mono hj).dp, (r.mono hj).un⟩
theorem hu_hot {k : Nat} {A : Around} (r : L2H.RoomH k A) : A.units + 65 < cLine := by have := r.un; omega
end Sy
set_option Elab.async false
set_option linter.all false
set_option maxRecDepth 100000
set_option maxHeartbeats 4000000
namespace Sy
open PySem PySem.Spec PyProof.Rows L2
section
variable {X : Cx} {ca : Nat → Addr} {Wx : WX} {pos : Pos}
/-! xs[::-1] -/
theorem relWs_back {K : PySem.W.Frag} {ρ : List Addr} {H : Hp} {vs : List V} {ws : List W} (q : RelWs K ca ρ H vs ws) : RelWs K ca ρ H vs.reverse ws.reverse := by
  have hl := q.length
  refine relWs_of (by simp [hl]) fun i v w e1 e2 => ?_
  have h1 : i < vs.length := by simpa using (List.getElem?_eq_some_iff.mp e1).1
  rw [List.getElem?_reverse h1] at e1
  rw [List.getElem?_reverse (by omega)] at e2
  rw [hl] at e1
  exact paired_get q _ v w e1 e2
def fRevL (t : T) (G : GH) : R T := match rdl t G with
  | some ws => .ok (.tmp ws.reverse) G
  | none => .bad
def mRevL (m : M T) : M T := fun τ G => (m τ G).bind fRevL
@[simp] theorem mRevL_at (m : M T) (τ : Sl) (G : GH) : mRevL m τ G = (m τ G).bind fRevL := (rfl)
theorem s_revL {e : Expr} {m : M T} {k : Nat} {p1 p2 p3 : Pos} (he : PE X e (tE X.K ca Wx m)) : PE X (.Subscript e (.Slice none none (some (.UnaryOp .USub (.Constant (.int 1) k p1) p2)) p3) pos) (tE X.K ca Wx (mRevL m)) := by
  refine PE.weak (pe_revL he) fun σ H Q ⟨ρ, G, τ, r0, s0, h⟩ => ?_
  refine tE.seq r0 s0 h fun t G1 ρ1 H1 v x1 r1 s1 q1 h1 => ?_
  unfold fRevL at h1
  cases e0 : rdl t G1 with
  | none => rw [e0] at h1; exact h1.elim
  | some ws =>
    rw [e0] at h1
    obtain ⟨a, vs, rfl, hv, qs⟩ := rdl_of r1 q1 e0
    exact ⟨a, vs, rfl, hv, fun p hp => h1 ρ1 _ (.laid hp) (r1.laid hp) _ ((fresh_tmp r1 hp (relWs_back qs)).back x1 (.laid hp))⟩
/-! texts -/
def strsW : List W → Option (List Str)
  | [] => some []
  | .str x :: ws => (strsW ws).map (x :: ·)
  | _ :: _ => none
theorem strsW_ok {K : PySem.W.Frag} {ρ : List Addr} {H : Hp} : ∀ {vs : List V} {ws : List W} {xs : List Str}, RelWs K ca ρ H vs ws → strsW ws = some xs → vs = xs.map V.str
  | [], _, _, .nil, h => by cases h; rfl
  | v :: vs, w :: ws, xs, .cons q t, h => by
    cases q with
    | str x =>
      unfold strsW at h
      cases e : strsW ws with
      | none => rw [e] at h; cases h
      | some ys =>
        rw [e] at h
        cases h
        rw [strsW_ok t e]
        rfl
    | _ => cases h
/-- sep.join(texts) -/
def fJoin (t : T) (ts : List T) (G : GH) : R T := match t with
  | .val (.str a) => match ts with
    | [u] => match (match rdl u G with
        | some ws => some ws
        | none => rdt u) with
      | some ws => match strsW ws with
        | some ys => if (ys.map (·.length)).sum + ys.length * a.length ≤ 16777216 then .ok (.val (.str (Txt.join a ys))) G else .bad
        | none => .bad
      | none => .bad
    | _ => .bad
  | _ => .bad
theorem says_join : SaysM X ca (fun x xs H Q => ∃ a p, ∃ ys : List Str, x = .str a ∧ xs = [.ref p] ∧ (SqL X.K H p (ys.map V.str) ∨ SqT X.K H p (ys.map V.str)) ∧ (ys.map (·.length)).sum + ys.length * a.length ≤ 16777216 ∧ Q (.str (Txt.join a ys)) H) fJoin := by
  intro Wx σ ρ G H H0 x t xs ts Q r qx qs h
  unfold fJoin at h
  split at h
  · cases qx
    rename_i a
    split at h
    · rename_i u
      obtain ⟨v, rfl, qv⟩ := relTs_one qs
      split at h
      · rename_i ws e
        split at h
        · rename_i ys e2
          split at h
          · rename_i z
            have fin : ∀ p, (SqL X.K H p (ys.map V.str) ∨ SqT X.K H p (ys.map V.str)) → ∃ a' p', ∃ ys' : List Str, V.str a = .str a' ∧ [V.ref p] = [.ref p'] ∧ (SqL X.K H p' (ys'.map V.str) ∨ SqT X.K H p' (ys'.map V.str)) ∧ (ys'.map (·.length)).sum + ys'.length * a'.length ≤ 16777216 ∧ Q (.str (Txt.join a' ys')) H :=
              fun p hp => ⟨a, p, ys, rfl, rfl, hp, z, h ρ H .refl r _ (.str _)⟩
            cases e0 : rdl u G with
            | some ws' =>
              rw [e0] at e
              cases e
              obtain ⟨p, vs, rfl, hv, q1⟩ := rdl_of r qv e0
              rw [strsW_ok q1 e2] at hv
              exact fin p (.inl hv)
            | none =>
              rw [e0] at e
              obtain ⟨p, vs, rfl, hv, q1⟩ := rdt_of qv e
              rw [strsW_ok q1 e2] at hv
              exact fin p (.inr hv)
          · exact h.elim
        · exact h.elim
      · exact h.elim
    · exact h.elim
  · exact h.elim
/-- text.index(part): it is there -/
def fIdx (t : T) (ts : List T) (G : GH) : R T := match t with
  | .val (.str a) => match ts with
    | [.val (.str b)] => match Builtin.Str.occurrences a b 0 a.length 1 with
      | i :: _ => .ok (.val (.int (i : Nat))) G
      | [] => .bad
    | _ => .bad
  | _ => .bad
theorem says_sidx : SaysM X ca (fun x xs H Q => ∃ a b i rest, x = .str a ∧ xs = [.str b] ∧ Builtin.Str.occurrences a b 0 a.length 1 = i :: rest ∧ Q (.int (i : Nat)) H) fIdx := by
  intro Wx σ ρ G H H0 x t xs ts Q r qx qs h
  unfold fIdx at h
  split at h
  · cases qx
    split at h
    · obtain ⟨v, rfl, qv⟩ := relTs_one qs
      cases qv
      split at h
      · rename_i i rest e
        exact ⟨_, _, i, rest, rfl, rfl, e, h ρ H .refl r _ (.int _)⟩
      · exact h.elim
    · exact h.elim
  · exact h.elim
/-- text.split(sep) -/
def fSplit (t : T) (ts : List T) (G : GH) : R T := match t with
  | .val (.str a) => match ts with
    | [.val (.str b)] => if (b.length == 0) = false ∧ a.length + 2 ≤ 16777216 then .ok (.tmp ((Txt.split a b).map W.str)) G else .bad
    | _ => .bad
  | _ => .bad
theorem relWs_strs {K : PySem.W.Frag} {ρ : List Addr} {H : Hp} : ∀ (ys : List Str), RelWs K ca ρ H (ys.map V.str) (ys.map W.str)
  | [] => .nil
  | _ :: ys => .cons (.str _) (relWs_strs ys)
theorem says_split : SaysM X ca (fun x xs H Q => ∃ a b, x = .str a ∧ xs = [.str b] ∧ (b.length == 0) = false ∧ a.length + 2 ≤ sizeLine ∧ rNewStrs (Txt.split a b) H Q) fSplit := by
  intro Wx σ ρ G H H0 x t xs ts Q r qx qs h
  unfold fSplit at h
  split at h
  · cases qx
    split at h
    · obtain ⟨v, rfl, qv⟩ := relTs_one qs
      cases qv
      split at h
      · rename_i z
        exact ⟨_, _, rfl, rfl, z.1, by rw [sizeLine_eq]; exact z.2, fun p hp => h ρ _ (.laid hp) (r.laid hp) _ (fresh_tmp r hp (relWs_strs _))⟩
      · exact h.elim
    · exact h.elim
  · exact h.elim
end
end Sy
set_option Elab.async false
set_option linter.all false
set_option maxRecDepth 100000
set_option maxHeartbeats 4000000
namespace Sy
open PySem PySem.Spec PyProof.Rows L2
section
variable {X : Cx} {ca : Nat → Addr} {Wx : WX} {pos : Pos}
/-! list.index, list.count -/
def fIdxL (t : T) (ts : List T) (G : GH) : R T := match ts with
  | [u] => match toDT G t, toDT G u with
    | some (.list ds), some d => match ds.findIdx? (fun z => PyData.eqv z d) with
      | some j => .ok (.val (.int (j : Nat))) G
      | none => .bad
    | _, _ => .bad
  | _ => .bad
theorem toDT_listref {K : PySem.W.Frag} {ρ : List Addr} {G : GH} {H H0 : Hp} {x : V} {t : T} {ds : List PyData} (q : RelT K ca H0 ρ H x t) (h : toDT G t = some (.list ds)) : ∃ a, x = .ref a := by
  cases t with
  | tmp ws =>
    obtain ⟨p, vs, rfl, _⟩ := q
    exact ⟨p, rfl⟩
  | val w =>
    cases w with
    | loc n => cases q; exact ⟨_, rfl⟩
    | frl ws =>
      obtain ⟨a, vs, rfl, _⟩ := relW_frl q
      exact ⟨a, rfl⟩
    | tup ws =>
      have h' : (mapO (toD 8 G) ws).map PyData.tuple = some (.list ds) := h
      cases e : mapO (toD 8 G) ws with
      | none => rw [e] at h'; cases h'
      | some us => rw [e] at h'; cases h'
    | str x =>
      have h' : (if x.cps.all (· < 0x110000) then some (PyData.str x) else none) = some (.list ds) := h
      split at h' <;> cases h'
    | non => cases h
    | bl b => cases h
    | int i => cases h
    | ty n => cases h
    | cls n => cases h
    | exn c a => cases h
theorem says_idxL : SaysM X ca (rIndexD X.K) fIdxL := by
  intro Wx σ ρ G H H0 x t xs ts Q r qx qs h
  unfold fIdxL at h
  split at h
  · rename_i u
    obtain ⟨v, rfl, qv⟩ := relTs_one qs
    split at h
    · rename_i ds d e1 e2
      split at h
      · rename_i j ej
        obtain ⟨a, rfl⟩ := toDT_listref qx e1
        obtain ⟨a1, a2⟩ := toDT_dp r qx e1
        obtain ⟨b1, b2⟩ := toDT_dp r qv e2
        obtain ⟨hj, p1, p2⟩ := List.findIdx?_eq_some_iff_getElem.mp ej
        refine ⟨a, v, d, ds, j, ds[j], rfl, rfl, a1, b1, a2, b2, List.getElem?_eq_getElem hj, p1, fun m z' hm hz => ?_, h ρ H .refl r _ (.int _)⟩
        have hml : m < ds.length := Nat.lt_trans hm hj
        rw [List.getElem?_eq_getElem hml] at hz
        cases hz
        have := p2 m hm
        simpa using this
      · exact h.elim
    · exact h.elim
  · exact h.elim
def fCntL (t : T) (ts : List T) (G : GH) : R T := match rdl t G, ts with
  | some ws, [.val (.int k)] => match intsW ws with
    | some ns => .ok (.val (.int (ns.count k : Nat))) G
    | none => .bad
  | _, _ => .bad
theorem says_cntL : SaysM X ca (rCntI X.K) fCntL := by
  intro Wx σ ρ G H H0 x t xs ts Q r qx qs h
  unfold fCntL at h
  split at h
  · rename_i ws k e0
    split at h
    · rename_i ns e1
      obtain ⟨a, vs, rfl, hv, q1⟩ := rdl_of r qx e0
      obtain ⟨v, rfl, qv⟩ := relTs_one qs
      cases qv
      rw [intsW_of q1 e1] at hv
      exact ⟨a, ns, k, rfl, rfl, hv, h ρ H .refl r _ (.int _)⟩
    · exact h.elim
  · exact h.elim
/-! min, max of one list -/
theorem CallR.or {f : Value} {r r' : List V → Hp → VK → Prop} (h : CallR X f r) (h' : CallR X f r') : CallR X f (fun xs H Q => r xs H Q ∨ r' xs H Q) := by
  intro pins s σ H xs us Q I rs q
  rcases q with q | q
  · exact h pins s σ H xs us Q I rs q
  · exact h' pins s σ H xs us Q I rs q
open SeqAt PySem.W in
def minS (x : Str) (xs : List Str) : Str := xs.foldl (fun a y => if dataLt (.str y) (.str a) then y else a) x
theorem minD_strs (x : Str) : ∀ xs : List Str, PySem.W.minD (.str x) (xs.map .str) = .str (minS x xs) := by
  intro xs
  unfold PySem.W.minD minS
  induction xs generalizing x with
  | nil => rfl
  | cons y r ih =>
    rw [List.map_cons, List.foldl_cons, List.foldl_cons, ← ih]
    congr 1
    split <;> rfl
theorem readsAll_strs {h : Heap} : ∀ {vs : List Value} {ys : List Str}, StrsAre vs ys → ∃ as, ReadsAll h vs (ys.map PyData.str) as := by
  intro vs ys hs
  induction hs with
  | nil => exact ⟨_, .nil⟩
  | cons y t r ih =>
    obtain ⟨as, q⟩ := ih
    exact ⟨_, .cons (.str y t) q⟩
theorem depth_strs : ∀ ys : List Str, PyData.depthAll (ys.map PyData.str) = 0
  | [] => rfl
  | y :: ys => by
    rw [List.map_cons, PyData.depthAll, depth_strs ys]
    rfl
def rMinS (K : PySem.W.Frag) : List V → Hp → VK → Prop := fun vs H Q => ∃ (a : Addr) (y : Str) (ys : List Str), vs = [V.ref a] ∧ SqL K H a ((y :: ys).map V.str) ∧ Q (.str (minS y ys)) H
theorem cr_minS (hc : X.calm = true) (hu : X.A.units + 64 < cLine) : CallR X (.builtin "min") (rMinS X.K) := by
  intro pins s σ H vs us Q I r h
  obtain ⟨a, y, ys, rfl, hs, q⟩ := h
  obtain ⟨its, rv, hl, _⟩ := I.list hs
  rw [Vals.ref1 r]
  obtain ⟨as, hr⟩ := readsAll_strs (h := s.heap) rv.strs
  refine PySem.W.min_list_data (x := .str y) (xs := ys.map PyData.str) (as := as) (I.ok.hd hc) hl.isList hr ⟨fun u hu w hw => ?_, fun u hu => ?_⟩ ?_ fun i v h' tk bs _ hv hk => ?_
  · obtain ⟨u', _, rfl⟩ := List.mem_map.mp (show u ∈ (y :: ys).map PyData.str from hu)
    obtain ⟨w', _, rfl⟩ := List.mem_map.mp (show w ∈ (y :: ys).map PyData.str from hw)
    rfl
  · obtain ⟨u', _, rfl⟩ := List.mem_map.mp (show u ∈ (y :: ys).map PyData.str from hu)
    exact fun z => nomatch z
  · rw [show (PyData.str y :: ys.map PyData.str) = (y :: ys).map PyData.str from rfl, depth_strs]
    omega
  · rw [minD_strs] at hv
    cases hv
    exact ⟨.str _, H, I.kept hk, ⟨_, rfl⟩, q⟩
/-- the least of some -/
def leastI : List Int → Option Int
  | [] => none
  | n :: ns => some (ns.foldl min n)
def mostI : List Int → Option Int
  | [] => none
  | n :: ns => some (ns.foldl max n)
theorem foldl_min_mem (n : Int) : ∀ ns : List Int, (ns.foldl min n) ∈ n :: ns ∧ ∀ m ∈ n :: ns, ns.foldl min n ≤ m := by
  intro ns
  induction ns generalizing n with
  | nil => exact ⟨List.mem_cons_self, fun m hm => by simp at hm; subst hm; exact Int.le_refl _⟩
  | cons k r ih =>
    obtain ⟨h1, h2⟩ := ih (min n k)
    rw [List.foldl_cons]
    refine ⟨?_, fun m hm => ?_⟩
    · rcases List.mem_cons.mp h1 with z | z
      · rw [z]
        by_cases hk : n ≤ k
        · rw [Int.min_eq_left hk]; exact List.mem_cons_self
        · rw [Int.min_eq_right (by omega)]; exact List.mem_cons_of_mem _ List.mem_cons_self
      · exact List.mem_cons_of_mem _ (List.mem_cons_of_mem _ z)
    · have h0 := h2 (min n k) List.mem_cons_self
      rcases List.mem_cons.mp hm with rfl | hm
      · exact Int.le_trans h0 (Int.min_le_left _ _)
      · rcases List.mem_cons.mp hm with rfl | hm
        · exact Int.le_trans h0 (Int.min_le_right _ _)
        · exact h2 m (List.mem_cons_of_mem _ hm)
theorem foldl_max_mem (n : Int) : ∀ ns : List Int, (ns.foldl max n) ∈ n :: ns ∧ ∀ m ∈ n :: ns, m ≤ ns.foldl max n := by
  intro ns
  induction ns generalizing n with
  | nil => exact ⟨List.mem_cons_self, fun m hm => by simp at hm; subst hm; exact Int.le_refl _⟩
  | cons k r ih =>
    obtain ⟨h1, h2⟩ := ih (max n k)
    rw [List.foldl_cons]
    refine ⟨?_, fun m hm => ?_⟩
    · rcases List.mem_cons.mp h1 with z | z
      · rw [z]
        by_cases hk : n ≤ k
        · rw [Int.max_eq_right hk]; exact List.mem_cons_of_mem _ List.mem_cons_self
        · rw [Int.max_eq_left (by omega)]; exact List.mem_cons_self
      · exact List.mem_cons_of_mem _ (List.mem_cons_of_mem _ z)
    · have h0 := h2 (max n k) List.mem_cons_self
      rcases List.mem_cons.mp hm with rfl | hm
      · exact Int.le_trans (Int.le_max_left _ _) h0
      · rcases List.mem_cons.mp hm with rfl | hm
        · exact Int.le_trans (Int.le_max_right _ _) h0
        · exact h2 m (List.mem_cons_of_mem _ hm)
def fMin1 (ts : List T) (G : GH) : R T := match ts with
  | [t] => match rdl t G with
    | some ws => match intsW ws with
      | some ns => match leastI ns with
        | some m => .ok (.val (.int m)) G
        | none => .bad
      | none => match strsW ws with
        | some (y :: ys) => .ok (.val (.str (minS y ys))) G
        | _ => .bad
    | none => .bad
  | _ => .bad
def fMax1 (ts : List T) (G : GH) : R T := match ts with
  | [t] => match rdl t G with
    | some ws => match (intsW ws).bind mostI with
      | some m => .ok (.val (.int m)) G
      | none => .bad
    | none => .bad
  | _ => .bad
theorem says_min1 : SaysC X ca (fun xs H Q => rMin X.K xs H Q ∨ rMinS X.K xs H Q) fMin1 := by
  intro Wx σ ρ G H H0 xs ts Q r q h
  unfold fMin1 at h
  split at h
  · rename_i t
    obtain ⟨v, rfl, qv⟩ := relTs_one q
    split at h
    · rename_i ws e0
      obtain ⟨a, vs, rfl, hv, q1⟩ := rdl_of r qv e0
      split at h
      · rename_i ns e1
        split at h
        · rename_i m e2
          rw [intsW_of q1 e1] at hv
          cases ns with
          | nil => cases e2
          | cons n ns =>
            cases e2
            obtain ⟨h1, h2⟩ := foldl_min_mem n ns
            refine .inl ⟨a, n :: ns, rfl, hv, by simp, fun m hm hle => ?_⟩
            have e3 : m = ns.foldl min n := Int.le_antisymm (hle _ h1) (h2 m hm)
            rw [e3]
            exact h ρ H .refl r _ (.int _)
        · exact h.elim
      · split at h
        · rename_i y ys e2
          rw [strsW_ok q1 e2] at hv
          exact .inr ⟨a, y, ys, rfl, hv, h ρ H .refl r _ (.str _)⟩
        · exact h.elim
    · exact h.elim
  · exact h.elim
theorem says_max1 : SaysC X ca (rMax X.K) fMax1 := by
  intro Wx σ ρ G H H0 xs ts Q r q h
  unfold fMax1 at h
  split at h
  · rename_i t
    obtain ⟨v, rfl, qv⟩ := relTs_one q
    split at h
    · rename_i ws e0
      obtain ⟨a, vs, rfl, hv, q1⟩ := rdl_of r qv e0
      split at h
      · rename_i m e2
        cases e1 : intsW ws with
        | none => rw [e1] at e2; cases e2
        | some ns =>
          rw [e1, Option.bind_some] at e2
          rw [intsW_of q1 e1] at hv
          cases ns with
          | nil => cases e2
          | cons n ns =>
            cases e2
            obtain ⟨h1, h2⟩ := foldl_max_mem n ns
            refine ⟨a, n :: ns, rfl, hv, by simp, fun m hm hle => ?_⟩
            have e3 : m = ns.foldl max n := Int.le_antisymm (h2 m hm) (hle _ h1)
            rw [e3]
            exact h ρ H .refl r _ (.int _)
      · exact h.elim
    · exact h.elim
  · exact h.elim
/-! range with a step -/
def rangeWC (lo c : Int) (n : Nat) : List W := (List.range n).map fun (i : Nat) => .int (lo + (i : Int) * c)
theorem itrc_ok {K : PySem.W.Frag} {ρ : List Addr} {H : Hp} {lo c : Int} {n : Nat} : ItOk K ca (Itc lo c n) (rangeWC lo c n) [] ρ H := by
  intro i ρ' G' H' e r' _
  have hl : (rangeWC lo c n).length = n := by unfold rangeWC; simp
  refine ⟨fun w hw => ?_, fun h => by show n ≤ i; omega⟩
  have h1 : i < n := by rw [← hl]; exact (List.getElem?_eq_some_iff.mp hw).1
  refine ⟨h1, fun y H2 hy => ?_⟩
  obtain ⟨rfl, rfl⟩ := hy
  unfold rangeWC at hw
  rw [List.getElem?_map, List.getElem?_range h1] at hw
  cases hw
  exact ⟨.refl, r', .int _⟩
def iterR3 (ws : List W) (G : GH) : R (List W × Src) := match ws with
  | [.int i, .int j, .int c] => if c ≠ 0 ∧ c.natAbs < 1073741824 ∧ Builtin.Range.small i j c = true ∧ 0 ≤ Builtin.Range.rangeSize i j c then .ok (rangeWC i c (Builtin.Range.rangeSize i j c).toNat, []) G else .bad
  | _ => .bad
def miR3 (m : M (List W)) : M (List W × Src) := fun τ G => (m τ G).bind iterR3
theorem relWs_three {K : PySem.W.Frag} {ρ : List Addr} {H : Hp} {vs : List V} {w u x : W} (q : RelWs K ca ρ H vs [w, u, x]) : ∃ v z y, vs = [v, z, y] ∧ RelW K ca ρ H v w ∧ RelW K ca ρ H z u ∧ RelW K ca ρ H y x := by
  cases q with
  | cons q t =>
    obtain ⟨a, b, rfl, h1, h2⟩ := relWs_two t
    exact ⟨_, a, b, rfl, q, h1, h2⟩
theorem i_range3 {a b c tg : Expr} {m : M (List W)} {p : Pos} (hg : Gl X "range") (hm : X.mg "range" = none) (ha : PA X [a, b, c] (tA X.K ca Wx m)) (hs : starEach [a, b, c] X.env = (false, eval a X.env) :: starEach [b, c] X.env := by rfl)
    (hpl : (backTo pos (starEach [b, c] X.env)).any (·.1) = false := by rfl) : PI X tg (.Call (.Name "range" p) [a, b, c] [] pos) (tI X.K ca Wx (miR3 m)) := by
  refine PI.weak (pi_range3 hg hm ha hs hpl) fun σ H R ⟨ρ, G, τ, r, sl, h⟩ => ?_
  refine tA.seq r sl h fun ws G1 ρ1 H1 vs x1 r1 s1 q1 h1 => ?_
  unfold iterR3 at h1
  split at h1
  · split at h1
    · rename_i i j c z
      obtain ⟨v, u, y, rfl, qv, qu, qy⟩ := relWs_three q1
      cases qv; cases qu; cases qy
      exact ⟨i, j, c, _, rfl, ⟨z.1, z.2.1, z.2.2.1, (Int.toNat_of_nonneg z.2.2.2).symm⟩, h1 ρ1 H1 .refl r1 _ itrc_ok⟩
    · exact h1.elim
  · exact h1.elim
/-! xs[i] op= e, of ints -/
theorem get_list : PGet X (rIxL X.K) := by
  intro pins s σ H o i ov iv Q I ro ri h
  obtain ⟨p, xs, k, z, rfl, rfl, hq, he, q⟩ := h
  cases ro
  obtain ⟨t, rfl⟩ := ri
  obtain ⟨its, r, pl, hz⟩ := I.list hq
  obtain ⟨j, h1, h2, h3, h4, h5⟩ := atI_get he
  obtain ⟨w, ew, rw'⟩ := r.get h2
  have hl := r.length
  have hn := line63
  have fin : EP X pins σ Q w s := ⟨z, H, I, rw', q⟩
  by_cases h0 : 0 ≤ k
  · have hj : k.toNat = j := by
      rw [seqIndex_of h0 h5] at h1
      exact Option.some.inj h1
    exact wpAny_getItem_list pl.isList h0 (by omega) (by rw [hj]; simpa using ew) fin
  · have hj : (k + (its.toArray.size : Int)).toNat = j := by
      rw [seqIndex_neg (by omega) h4] at h1
      rw [List.size_toArray, ← hl]
      exact Option.some.inj h1
    exact wpAny_getItem_list_neg pl.isList (by omega) (by rw [List.size_toArray] <;> omega) (by omega) (by rw [hj]; simpa using ew) fin
def sAugS (f : Int → Int → Int) (mo mi m : M T) : MS := fun τ G => (mo τ G).toS τ fun t G1 => (mi τ G1).toS τ fun i G2 => match i, lstAt t G2 with
  | .val (.int k), some (n, us) => match atI us k with
    | some (.int x) => (m τ G2).toS τ fun y G3 => match y, lstAt t G3 with
      | .val (.int z), some (_, us3) => match ixN us3.length k with
        | some j => .nx τ (G3.set n (.lst (us3.set j (.int (f x z)))))
        | none => .bad
      | _, _ => .bad
    | _ => .bad
  | _, _ => .bad
theorem lstAt_loc' {t : T} {G : GH} {n : Nat} {us : List W} (h : lstAt t G = some (n, us)) : t = .val (.loc n) := by
  unfold lstAt at h
  split at h
  · rename_i m
    cases e : G[m]?.bind GO.wr with
    | none => rw [e] at h; cases h
    | some ws => rw [e] at h; cases h; rfl
  · cases h
theorem s_augS {o i e : Expr} {mo mi m : M T} {op : Operator} {f : Int → Int → Int} {tpos : Pos} (ho : PE X o (tE X.K ca Wx mo)) (hi : PE X i (tE X.K ca Wx mi)) (he : PE X e (tE X.K ca Wx m)) (hp : OpR X (inplaceOp op) (rI0 fun i j => .int (f i j)))
    (ha : ∀ ov iv new, augStore i ov iv new = (do holding [new, ov, iv] (setItem ov iv new); release [new, ov, iv] []; pure .next) := by intros; rfl) : PS X (.AugAssign (.Subscript o i tpos) op e pos) (tS X.K ca Wx (sAugS f mo mi m)) := by
  refine PS.weak (ps_augS ho hi get_list he (aug_I hp) set_list ha) fun D σ H ⟨ρ, G, τ, r, s, h⟩ => ?_
  refine tE.seqS r s h fun t G1 ρ1 H1 vo x1 r1 s1 q1 h1 => ?_
  refine tE.seqS r1 s1 h1 fun u G2 ρ2 H2 vi x2 r2 s2 q2 h2 => ?_
  split at h2
  · rename_i k n us e0
    split at h2
    · rename_i x ex
      cases q2
      obtain ⟨a, vs, rfl, hn, hl, qa⟩ := lstAt_of r2 (q1.ext r1 x2) e0
      obtain ⟨vx, e1, qx⟩ := relWs_atI qa ex
      cases qx
      refine ⟨a, vs, k, .int x, rfl, rfl, .of hl, e1, ?_⟩
      refine tE.seqS r2 s2 h2 fun y G3 ρ3 H3 vy x3 r3 s3 q3 h3 => ?_
      split at h3
      · rename_i z n3 us3 e3
        split at h3
        · rename_i j ej
          cases q3
          obtain ⟨a3, vs3, e4, hn3, hl3, qa3⟩ := lstAt_of r3 ((q1.ext r1 x2).ext r2 x3) e3
          cases e4
          have hnn : n3 = n := by
            have z1 := lstAt_loc' e0
            have z2 := lstAt_loc' e3
            rw [z1] at z2
            cases z2
            rfl
          subst hnn
          refine ⟨x, z, rfl, rfl, ?_⟩
          refine ⟨a, vs3, k, j, rfl, rfl, hl3, by rw [qa3.length]; exact ej, ?_⟩
          exact h3 ρ3 _ σ (.put hn3) (r3.put hn3 hl3 (relWs_set (.int _) j qa3)) (s3.ext r3 (.put hn3))
        · exact h3.elim
      · exact h3.elim
    · exact h2.elim
  · exact h2.elim
end
end Sy
set_option Elab.async false
set_option linter.all false
set_option maxRecDepth 100000
set_option maxHeartbeats 4000000
namespace Sy
open PySem PySem.Spec PyProof.Rows L2
/-! zip of lists and tuples, in any mixture; zip of three -/
/-- k: a tuple -/
def SqK (k : Bool) (K : PySem.W.Frag) (H : Hp) (a : Addr) (xs : List V) : Prop := match k with
  | true => SqT K H a xs
  | false => SqL K H a xs
def HasK (k : Bool) (h : Heap) (a : Addr) (its : Array Value) : Prop := match k with
  | true => h.IsTuple a its
  | false => h.IsList a its
def ItK (k : Bool) (h : Heap) (it a : Addr) (i : Nat) : Prop := match k with
  | true => h.IsTupleIter it a i
  | false => h.IsListIter it a i
section
variable {X : Cx} {pins : List (Addr × Obj)} {σ : SSt} {H : Hp} {s : Shared} {k : Bool} {a it : Addr} {i : Nat}
theorem sqK_of {xs : List V} (I : Inv X pins σ H s) (h : SqK k X.K H a xs) : ∃ its : List Value, Vals xs its ∧ HasK k s.heap a its.toArray ∧ a < s.heap.objs.size := by
  cases k with
  | true =>
    obtain ⟨its, r, p, _⟩ := I.tuple h
    obtain ⟨o, ho, _⟩ := id p
    exact ⟨its, r, p, Heap.lt_size ho⟩
  | false =>
    obtain ⟨its, r, p, _⟩ := I.list h
    exact ⟨its, r, p.isList, p.lt⟩
theorem sqK_inj {xs ys : List V} (I : Inv X pins σ H s) (h : SqK k X.K H a xs) (h' : SqK k X.K H a ys) : xs = ys := by
  cases k with
  | true => exact I.tuple_inj h h'
  | false => exact I.list_inj h h'
theorem ItK.at' {h h' : Heap} (p : ItK k h it a i) (q : ∀ o, h.get? it = some o → h'.get? it = some o) : ItK k h' it a i := by
  cases k with
  | true => exact Heap.IsTupleIter.at p q
  | false => exact Heap.IsListIter.at p q
theorem HasK.at' {h h' : Heap} {its : Array Value} (p : HasK k h a its) (q : ∀ o, h.get? a = some o → h'.get? a = some o) : HasK k h' a its := by
  cases k with
  | true => exact Heap.IsTuple.at p q
  | false => exact Heap.IsList.at p q
theorem ItK.live {h : Heap} (p : ItK k h it a i) : ∃ o, h.get? it = some o ∧ ∀ v, o.data ≠ .cell v := by
  cases k with
  | true => obtain ⟨o, e, _, d⟩ := p; exact ⟨o, e, fun v q => by rw [d] at q; cases q⟩
  | false => obtain ⟨o, e, _, d⟩ := p; exact ⟨o, e, fun v q => by rw [d] at q; cases q⟩
theorem HasK.live {h : Heap} {its : Array Value} (p : HasK k h a its) : ∃ o, h.get? a = some o := by
  cases k with
  | true => obtain ⟨o, e, _⟩ := p; exact ⟨o, e⟩
  | false => obtain ⟨o, e, _⟩ := p; exact ⟨o, e⟩
theorem drawsK {prog : Program} {w : World} {A : Around} (hh : A.handled = none) (k : Bool) (it a : Addr) (hne : a ≠ it) (its : Array Value) :
    Draws prog w A it [it, a] its.size (fun i v => its[i]? = some v) (fun i h => ItK k h it a i ∧ HasK k h a its) := by
  cases k with
  | true => exact Draws.tuple hh it a hne its
  | false => exact Draws.list hh it a hne its
/-- at its end -/
theorem drawsE {prog : Program} {w : World} {A : Around} (hh : A.handled = none) (k : Bool) (it a : Addr) (its : Array Value) (n : Nat) (hn : its.size ≤ n) :
    Draws prog w A it [it, a] n (fun i v => its[i]? = some v) (fun i h => i = n ∧ ItK k h it a i ∧ HasK k h a its) where
  live := fun _ _ st => let ⟨o, ho, _⟩ := st.2.1.live; ⟨o, ho⟩
  frame := fun _ _ _ st hk => ⟨st.1, st.2.1.at' fun o e => hk it (by simp) o e, st.2.2.at' fun o e => hk a (by simp) o e⟩
  item := fun i s Q E hi st hQ => by
    have := st.1
    omega
  done := fun s Q E st hE => by
    have h0 : its[n]? = none := by simp [hn]
    cases k with
    | true => exact wpAny_nextOf_tuple_end hh st.2.1 st.2.2 h0 hE
    | false => exact wpAny_nextOf_list_end hh st.2.1 st.2.2 h0 hE
theorem draws_at {prog : Program} {w : World} {A : Around} {h : Heap} (hh : A.handled = none) (k : Bool) (it a : Addr) (hne : a ≠ it) (its : Array Value) (i : Nat) (p : ItK k h it a i) (q : HasK k h a its) :
    ∃ n St, Draws prog w A it [it, a] n (fun i v => its[i]? = some v) St ∧ St i h ∧ i ≤ n ∧ (its.size ≤ i → i = n) := by
  by_cases hi : i < its.size
  · exact ⟨_, _, drawsK hh k it a hne its, ⟨p, q⟩, by omega, fun z => by omega⟩
  · exact ⟨i, _, drawsE hh k it a its i (by omega), ⟨rfl, p, q⟩, by omega, fun _ => rfl⟩
end
/-! two -/
structure Ap2 (z TI TO i1 i2 a b : Addr) : Prop where
  TIz : TI ≠ z
  TOz : TO ≠ z
  TITO : TI ≠ TO
  TIi1 : TI ≠ i1
  TIi2 : TI ≠ i2
  TOi1 : TO ≠ i1
  TOi2 : TO ≠ i2
  zi1 : z ≠ i1
  zi2 : z ≠ i2
  i12 : i1 ≠ i2
  za : z ≠ a
  zb : z ≠ b
  TOa : TO ≠ a
  TOb : TO ≠ b
  i1a : i1 ≠ a
  i1b : i1 ≠ b
  i2a : i2 ≠ a
  i2b : i2 ≠ b
theorem Ap2.sep {z TI TO i1 i2 a b : Addr} (D : Ap2 z TI TO i1 i2 a b) : ZipSep2 z TI TO i1 i2 [i1, a] [i2, b] where
  TIz := D.TIz
  TOz := D.TOz
  TITO := D.TITO
  TIi1 := D.TIi1
  mem1 := by simp
  zf1 := by simp [D.zi1, D.za]
  Tf1 := by simp [D.TOi1, D.TOa]
  TIi2 := D.TIi2
  mem2 := by simp
  zf2 := by simp [D.zi2, D.zb]
  Tf2 := by simp [D.TOi2, D.TOb]
  sep1_2 := by simp [D.i12, D.i1b]
  sep2_1 := by simp [D.i12.symm, D.i2a]
theorem ap2_new (n a b : Addr) (ha : a < n) (hb : b < n) : Ap2 (n + 4) (n + 2) (n + 3) n (n + 1) a b := by
  constructor <;> (first | (show (_ : Nat) ≠ (_ : Nat); unfold Addr at *; omega) | (intro e; have e2 : (_ : Nat) = _ := e; omega))
def Itz2 (k1 k2 : Bool) (K : PySem.W.Frag) (a b : Addr) : It :=
  ⟨fun i H => ∃ (xs ys : List V) (x y : V), SqK k1 K H a xs ∧ SqK k2 K H b ys ∧ xs[i]? = some x ∧ ys[i]? = some y,
    fun i H v H' => ∃ T x y, v = .ref T ∧ H T = none ∧ H' = upd H T (.tup [x, y]) ∧ (∀ xs, SqK k1 K H a xs → xs[i]? = some x) ∧ ∀ ys, SqK k2 K H b ys → ys[i]? = some y,
    fun i H => ∃ xs ys : List V, SqK k1 K H a xs ∧ SqK k2 K H b ys ∧ (xs.length ≤ i ∨ ys.length ≤ i)⟩
theorem turn_zip2 {P : Program} {w : World} {K : PySem.W.Frag} {elts : List Expr} {kk : Nat} {tpos : Pos} {k1 k2 : Bool} {a b z TI TO i1 i2 : Addr} (D : Ap2 z TI TO i1 i2 a b) :
    Turn P w K (.Tuple elts kk tpos) (Itz2 k1 k2 K a b) [z, TI, TO, i1, i2] z (fun i h => IsZip h z TI TO .none ∧ IsTupOf2 h TI (.ref i1) (.ref i2) ∧ (∃ x y, IsTupOf2 h TO x y) ∧ ItK k1 h i1 a i ∧ ItK k2 h i2 b i) where
  mem := by simp
  obj := fun i h st c hc => by
    obtain ⟨hz, hTI, ⟨x, y, hTO⟩, h1, h2⟩ := st
    have e' : c = z ∨ c = TI ∨ c = TO ∨ c = i1 ∨ c = i2 := by simpa using hc
    rcases e' with q | q | q | q | q
    · rw [q]; exact ⟨_, hz, fun v q => nomatch q⟩
    · rw [q]; exact ⟨_, hTI, fun v q => nomatch q⟩
    · rw [q]; exact ⟨_, hTO, fun v q => nomatch q⟩
    · rw [q]; exact h1.live
    · rw [q]; exact h2.live
  keep := fun i h h' st k => by
    obtain ⟨hz, hTI, ⟨x, y, hTO⟩, h1, h2⟩ := st
    exact ⟨k z (by simp) _ hz, k TI (by simp) _ hTI, ⟨x, y, k TO (by simp) _ hTO⟩, h1.at' fun o q => k i1 (by simp) o q, h2.at' fun o q => k i2 (by simp) o q⟩
  item := by
    intro X hP hw hK hc i pins s σ H E I hf st hg
    subst hP hw hK
    obtain ⟨hz, hTI, ⟨x0, y0, hTO⟩, h1, h2⟩ := st
    obtain ⟨xs, ys, x, y, hqx, hqy, hx, hy⟩ := hg
    obtain ⟨its, rv, p, _⟩ := sqK_of I hqx
    obtain ⟨its2, rv2, p2, _⟩ := sqK_of I hqy
    obtain ⟨u, hu, ru⟩ := rv.get hx
    obtain ⟨u2, hu2, ru2⟩ := rv2.get hy
    have hzl : z < s.heap.objs.size := Heap.lt_size hz
    have hh : X.A.in1.handled = none := I.ok.hd hc
    refine wpAny_pyNext_zipD2_item D.sep (drawsK hh k1 i1 a D.i1a.symm its.toArray) (drawsK hh k2 i2 b D.i2b.symm its2.toArray) hz hTI hTO ⟨h1, p⟩ ⟨h2, p2⟩ ((by simpa using (List.getElem?_eq_some_iff.mp hu).1)) ((by simpa using (List.getElem?_eq_some_iff.mp hu2).1)) fun x1 x2 h' tk g1 g2 z' TO' d1 d2 hT hsz hk => ?_
    have e1 : x1 = u := by
      have : its[i]? = some x1 := by simpa using g1
      rw [hu] at this; cases this; rfl
    have e2 : x2 = u2 := by
      have : its2[i]? = some x2 := by simpa using g2
      rw [hu2] at this; cases this; rfl
    subst e1 e2
    refine ⟨_, rfl, wpAny_letOwnedTupleGo_zip (s := { s with heap := h', toks := tk }) z' fun h'' z'' sb => ?_⟩
    have hT2 : h''.get? s.heap.objs.size = some { cls := .type "tuple", data := .seq #[x1, x2] } := (sb.2 _ (Nat.ne_of_gt hzl)).trans hT
    have new : ObjOk X.prog X.w (upd H s.heap.objs.size (.tup [x, y])) h'' s.heap.objs.size (.tup [x, y]) :=
      ⟨by show 2 ≤ sizeLine; decide, [x1, x2], .cons ru (.cons ru2 .nil), ⟨_, hT2, rfl, _, rfl⟩⟩
    have I1 : Inv X pins σ (upd H s.heap.objs.size (.tup [x, y])) { s with heap := h'', toks := tk } :=
      I.turnedNew (t' := tk) (ch := [z, TI, TO, i1, i2]) (fun c o hb q => (sb.2 c (fun q' => hb (by simp [q']))).trans (hk c o (fun q' => hb (by simp [q'])) (fun q' => hb (by simp [q'])) (fun q' => hb (by simp [q'])) (fun q' => hb (by simp [q'])) q)) hf (Nat.le_refl _) new
    refine ⟨.ref s.heap.objs.size, _, I1, rfl, ⟨_, x, y, rfl, I.hok.fresh (Nat.le_refl _), rfl, fun l hl => by rw [sqK_inj I hl hqx]; exact hx, fun l hl => by rw [sqK_inj I hl hqy]; exact hy⟩, ⟨z'', ?_, ⟨x1, x2, ?_⟩, ?_, ?_⟩, fun c hcm => ?_⟩
    · exact (sb.2 _ D.TIz).trans (hk _ _ D.TIz D.TITO D.TIi1 D.TIi2 hTI)
    · exact (sb.2 _ D.TOz).trans TO'
    · exact d1.1.at' fun o q => (sb.2 _ D.zi1.symm).trans q
    · exact d2.1.at' fun o q => (sb.2 _ D.zi2.symm).trans q
    · have hlt : c < s.heap.objs.size := by
        have e' : c = z ∨ c = TI ∨ c = TO ∨ c = i1 ∨ c = i2 := by simpa using hcm
        rcases e' with q | q | q | q | q
        · rw [q]; exact hzl
        · rw [q]; exact Heap.lt_size hTI
        · rw [q]; exact Heap.lt_size hTO
        · rw [q]; obtain ⟨_, e1, _⟩ := h1.live; exact Heap.lt_size e1
        · rw [q]; obtain ⟨_, e2, _⟩ := h2.live; exact Heap.lt_size e2
      rw [upd_ne (Nat.ne_of_lt hlt)]
      exact (hf c hcm).1
  done := by
    intro X hP hw hK hc i pins s σ H E I hf st hg
    subst hP hw hK
    obtain ⟨hz, hTI, ⟨x0, y0, hTO⟩, h1, h2⟩ := st
    obtain ⟨xs, ys, hqx, hqy, hend⟩ := hg
    obtain ⟨its, rv, p, _⟩ := sqK_of I hqx
    obtain ⟨its2, rv2, p2, _⟩ := sqK_of I hqy
    have l1 := rv.length
    have l2 := rv2.length
    have hh : X.A.in1.handled = none := I.ok.hd hc
    obtain ⟨n1, St1, D1, s1, b1, c1⟩ := draws_at (prog := X.prog) (w := X.w) hh k1 i1 a D.i1a.symm its.toArray i h1 p
    obtain ⟨n2, St2, D2, s2, b2, c2⟩ := draws_at (prog := X.prog) (w := X.w) hh k2 i2 b D.i2b.symm its2.toArray i h2 p2
    refine wpAny_pyNext_zipD2_end D.sep D1 D2 hz hTI hTO s1 s2 b1 b2 ?_ fun h' tk hk => ⟨rfl, I.turnedL (t' := tk) (ch := [z, TI, TO, i1, i2]) (fun c o hb q =>
      hk c o (fun q' => hb (by simp [q'])) (fun q' => hb (by simp [q'])) (fun q' => hb (by simp [q'])) (fun q' => hb (by simp [q'])) q) hf⟩
    rcases hend with q | q
    · exact .inl (c1 (by simp; omega))
    · exact .inr (c2 (by simp; omega))
  self := fun A i s Q E st h => wpAny_pyIter_zip st.1 h
def iobj (k : Bool) (a : Addr) : Obj := match k with
  | true => { cls := .type "tuple_iterator", data := .fields #[.ref a, .int 0 0] }
  | false => { cls := .type "list_iterator", data := .fields #[.ref a, .int 0 0] }
theorem beginsK (k : Bool) (a : Addr) (its : Array Value) : Begins (.ref a) (iobj k a) (fun h => HasK k h a its) := by
  cases k with
  | true => exact begins_tuple a its
  | false => exact begins_list a its
theorem itK_new {k : Bool} {h : Heap} {it a : Addr} (e : h.get? it = some (iobj k a)) : ItK k h it a 0 := by
  cases k with
  | true => exact ⟨_, e, rfl, rfl⟩
  | false => exact ⟨_, e, rfl, rfl⟩
def iZip2 (K : PySem.W.Frag) (ta : TA) : TI := fun σ H R => ta σ H fun vs H1 => ∃ k1 k2 a b xs ys, vs = [.ref a, .ref b] ∧ SqK k1 K H1 a xs ∧ SqK k2 K H1 b ys ∧ R (Itz2 k1 k2 K a b) H1
theorem pi_zip2 {X : Cx} {e e2 : Expr} {ta : TA} {p pos tpos : Pos} {elts : List Expr} {kk : Nat} (hg : Gl X "zip") (hm : X.mg "zip" = none) (ha : PA X [e, e2] ta)
    (hs : starEach [e, e2] X.env = (false, eval e X.env) :: starEach [e2] X.env := by rfl) (hpl : (backTo pos (starEach [e2] X.env)).any (·.1) = false := by rfl) :
    PI X (.Tuple elts kk tpos) (.Call (.Name "zip" p) [e, e2] [] pos) (iZip2 X.K ta) := by
  refine ⟨fun pins s σ H R I h => ?_⟩
  refine Call_ (ld_blt I hg hm PyProof.Rows.boot_zip (PyProof.Rows.callWith_type1 (thn (ha.run pos pins s σ H _ I h) fun us s1 ⟨vs, H1, I1, r1, q1⟩ => ?_) hs hpl))
  obtain ⟨k1, k2, a, b, xs, ys, ex, hqx, hqy, q⟩ := q1
  subst ex
  cases r1 with
  | cons r rr =>
    cases rr with
    | cons r' rr =>
      cases rr
      cases r
      cases r'
      have fresh5 : ∀ c, c ∈ [s1.heap.objs.size + 4, s1.heap.objs.size + 2, s1.heap.objs.size + 3, s1.heap.objs.size, s1.heap.objs.size + 1] → FpOk X pins H1 c := fun c hcm => by
        have e' : c = s1.heap.objs.size + 4 ∨ c = s1.heap.objs.size + 2 ∨ c = s1.heap.objs.size + 3 ∨ c = s1.heap.objs.size ∨ c = s1.heap.objs.size + 1 := by simpa using hcm
        have hle : s1.heap.objs.size ≤ c := by
          rcases e' with z | z | z | z | z
          · rw [z]; exact Nat.le_add_right _ _
          · rw [z]; exact Nat.le_add_right _ _
          · rw [z]; exact Nat.le_add_right _ _
          · rw [z]; exact Nat.le_refl _
          · rw [z]; exact Nat.le_add_right _ _
        exact I1.fpOk hle (I1.hok.fresh hle)
      obtain ⟨its, rv, p1, la⟩ := sqK_of I1 hqx
      obtain ⟨its2, rv2, p2, lb⟩ := sqK_of I1 hqy
      refine zip_begins2 (beginsK k1 a its.toArray) (beginsK k2 b its2.toArray) p1 p2 fun h' hz hTI hTO h1 h2 hsz hk => wpAny_pyIter_zip hz ?_
      have I2 : Inv X pins σ H1 { s1 with heap := h' } := I1.kept (t' := s1.toks) hk
      exact ⟨s1.heap.objs.size + 4, [s1.heap.objs.size + 4, s1.heap.objs.size + 2, s1.heap.objs.size + 3, s1.heap.objs.size, s1.heap.objs.size + 1], _, _, H1, rfl, I2, turn_zip2 (ap2_new s1.heap.objs.size a b la lb), ⟨hz, hTI, ⟨_, _, hTO⟩, itK_new h1, itK_new h2⟩, fresh5, q⟩
/-! three -/
structure Ap3 (z TI TO i1 i2 i3 a b c : Addr) : Prop where
  TIz : TI ≠ z
  TOz : TO ≠ z
  TITO : TI ≠ TO
  TIi1 : TI ≠ i1
  TIi2 : TI ≠ i2
  TIi3 : TI ≠ i3
  TOi1 : TO ≠ i1
  TOi2 : TO ≠ i2
  TOi3 : TO ≠ i3
  zi1 : z ≠ i1
  zi2 : z ≠ i2
  zi3 : z ≠ i3
  i12 : i1 ≠ i2
  i13 : i1 ≠ i3
  i23 : i2 ≠ i3
  za : z ≠ a
  zb : z ≠ b
  zc : z ≠ c
  TOa : TO ≠ a
  TOb : TO ≠ b
  TOc : TO ≠ c
  i1a : i1 ≠ a
  i1b : i1 ≠ b
  i1c : i1 ≠ c
  i2a : i2 ≠ a
  i2b : i2 ≠ b
  i2c : i2 ≠ c
  i3a : i3 ≠ a
  i3b : i3 ≠ b
  i3c : i3 ≠ c
theorem Ap3.sep {z TI TO i1 i2 i3 a b c : Addr} (D : Ap3 z TI TO i1 i2 i3 a b c) : ZipSep3 z TI TO i1 i2 i3 [i1, a] [i2, b] [i3, c] where
  TIz := D.TIz
  TOz := D.TOz
  TITO := D.TITO
  TIi1 := D.TIi1
  mem1 := by simp
  zf1 := by simp [D.zi1, D.za]
  Tf1 := by simp [D.TOi1, D.TOa]
  TIi2 := D.TIi2
  mem2 := by simp
  zf2 := by simp [D.zi2, D.zb]
  Tf2 := by simp [D.TOi2, D.TOb]
  TIi3 := D.TIi3
  mem3 := by simp
  zf3 := by simp [D.zi3, D.zc]
  Tf3 := by simp [D.TOi3, D.TOc]
  sep1_2 := by simp [D.i12, D.i1b]
  sep1_3 := by simp [D.i13, D.i1c]
  sep2_1 := by simp [D.i12.symm, D.i2a]
  sep2_3 := by simp [D.i23, D.i2c]
  sep3_1 := by simp [D.i13.symm, D.i3a]
  sep3_2 := by simp [D.i23.symm, D.i3b]
theorem ap3_new (n a b c : Addr) (ha : a < n) (hb : b < n) (hc : c < n) : Ap3 (n + 5) (n + 3) (n + 4) n (n + 1) (n + 2) a b c := by
  constructor <;> (first | (show (_ : Nat) ≠ (_ : Nat); unfold Addr at *; omega) | (intro e; have e2 : (_ : Nat) = _ := e; omega))
def Itz3 (k1 k2 k3 : Bool) (K : PySem.W.Frag) (a b c : Addr) : It :=
  ⟨fun i H => ∃ (xs ys zs : List V) (x y z : V), SqK k1 K H a xs ∧ SqK k2 K H b ys ∧ SqK k3 K H c zs ∧ xs[i]? = some x ∧ ys[i]? = some y ∧ zs[i]? = some z,
    fun i H v H' => ∃ T x y z, v = .ref T ∧ H T = none ∧ H' = upd H T (.tup [x, y, z]) ∧ (∀ xs, SqK k1 K H a xs → xs[i]? = some x) ∧ (∀ ys, SqK k2 K H b ys → ys[i]? = some y) ∧ ∀ zs, SqK k3 K H c zs → zs[i]? = some z,
    fun i H => ∃ xs ys zs : List V, SqK k1 K H a xs ∧ SqK k2 K H b ys ∧ SqK k3 K H c zs ∧ (xs.length ≤ i ∨ ys.length ≤ i ∨ zs.length ≤ i)⟩
theorem turn_zip3 {P : Program} {w : World} {K : PySem.W.Frag} {elts : List Expr} {kk : Nat} {tpos : Pos} {k1 k2 k3 : Bool} {a b d z TI TO i1 i2 i3 : Addr} (D : Ap3 z TI TO i1 i2 i3 a b d) :
    Turn P w K (.Tuple elts kk tpos) (Itz3 k1 k2 k3 K a b d) [z, TI, TO, i1, i2, i3] z (fun i h => IsZip h z TI TO .none ∧ IsTupOf3 h TI (.ref i1) (.ref i2) (.ref i3) ∧ (∃ x y v, IsTupOf3 h TO x y v) ∧ ItK k1 h i1 a i ∧ ItK k2 h i2 b i ∧ ItK k3 h i3 d i) where
  mem := by simp
  obj := fun i h st c hc => by
    obtain ⟨hz, hTI, ⟨x, y, v, hTO⟩, h1, h2, h3⟩ := st
    have e' : c = z ∨ c = TI ∨ c = TO ∨ c = i1 ∨ c = i2 ∨ c = i3 := by simpa using hc
    rcases e' with q | q | q | q | q | q
    · rw [q]; exact ⟨_, hz, fun v q => nomatch q⟩
    · rw [q]; exact ⟨_, hTI, fun v q => nomatch q⟩
    · rw [q]; exact ⟨_, hTO, fun v q => nomatch q⟩
    · rw [q]; exact h1.live
    · rw [q]; exact h2.live
    · rw [q]; exact h3.live
  keep := fun i h h' st k => by
    obtain ⟨hz, hTI, ⟨x, y, v, hTO⟩, h1, h2, h3⟩ := st
    exact ⟨k z (by simp) _ hz, k TI (by simp) _ hTI, ⟨x, y, v, k TO (by simp) _ hTO⟩, h1.at' fun o q => k i1 (by simp) o q, h2.at' fun o q => k i2 (by simp) o q, h3.at' fun o q => k i3 (by simp) o q⟩
  item := by
    intro X hP hw hK hc i pins s σ H E I hf st hg
    subst hP hw hK
    obtain ⟨hz, hTI, ⟨x0, y0, v0, hTO⟩, h1, h2, h3⟩ := st
    obtain ⟨xs, ys, vs, x, y, v, hqx, hqy, hqv, hx, hy, hv⟩ := hg
    obtain ⟨its, rv, p, _⟩ := sqK_of I hqx
    obtain ⟨its2, rv2, p2, _⟩ := sqK_of I hqy
    obtain ⟨its3, rv3, p3, _⟩ := sqK_of I hqv
    obtain ⟨u, hu, ru⟩ := rv.get hx
    obtain ⟨u2, hu2, ru2⟩ := rv2.get hy
    obtain ⟨u3, hu3, ru3⟩ := rv3.get hv
    have hzl : z < s.heap.objs.size := Heap.lt_size hz
    have hh : X.A.in1.handled = none := I.ok.hd hc
    refine wpAny_pyNext_zipD3_item D.sep (drawsK hh k1 i1 a D.i1a.symm its.toArray) (drawsK hh k2 i2 b D.i2b.symm its2.toArray) (drawsK hh k3 i3 d D.i3c.symm its3.toArray) hz hTI hTO ⟨h1, p⟩ ⟨h2, p2⟩ ⟨h3, p3⟩ ((by simpa using (List.getElem?_eq_some_iff.mp hu).1)) ((by simpa using (List.getElem?_eq_some_iff.mp hu2).1)) ((by simpa using (List.getElem?_eq_some_iff.mp hu3).1)) fun x1 x2 x3 h' tk g1 g2 g3 z' TO' d1 d2 d3 hT hsz hk => ?_
    have e1 : x1 = u := by
      have : its[i]? = some x1 := by simpa using g1
      rw [hu] at this; cases this; rfl
    have e2 : x2 = u2 := by
      have : its2[i]? = some x2 := by simpa using g2
      rw [hu2] at this; cases this; rfl
    have e3 : x3 = u3 := by
      have : its3[i]? = some x3 := by simpa using g3
      rw [hu3] at this; cases this; rfl
    subst e1 e2 e3
    refine ⟨_, rfl, wpAny_letOwnedTupleGo_zip (s := { s with heap := h', toks := tk }) z' fun h'' z'' sb => ?_⟩
    have hT2 : h''.get? s.heap.objs.size = some { cls := .type "tuple", data := .seq #[x1, x2, x3] } := (sb.2 _ (Nat.ne_of_gt hzl)).trans hT
    have new : ObjOk X.prog X.w (upd H s.heap.objs.size (.tup [x, y, v])) h'' s.heap.objs.size (.tup [x, y, v]) :=
      ⟨by show 3 ≤ sizeLine; decide, [x1, x2, x3], .cons ru (.cons ru2 (.cons ru3 .nil)), ⟨_, hT2, rfl, _, rfl⟩⟩
    have I1 : Inv X pins σ (upd H s.heap.objs.size (.tup [x, y, v])) { s with heap := h'', toks := tk } :=
      I.turnedNew (t' := tk) (ch := [z, TI, TO, i1, i2, i3]) (fun c o hb q => (sb.2 c (fun q' => hb (by simp [q']))).trans (hk c o (fun q' => hb (by simp [q'])) (fun q' => hb (by simp [q'])) (fun q' => hb (by simp [q'])) (fun q' => hb (by simp [q'])) (fun q' => hb (by simp [q'])) q)) hf (Nat.le_refl _) new
    refine ⟨.ref s.heap.objs.size, _, I1, rfl, ⟨_, x, y, v, rfl, I.hok.fresh (Nat.le_refl _), rfl, fun l hl => by rw [sqK_inj I hl hqx]; exact hx, fun l hl => by rw [sqK_inj I hl hqy]; exact hy, fun l hl => by rw [sqK_inj I hl hqv]; exact hv⟩, ⟨z'', ?_, ⟨x1, x2, x3, ?_⟩, ?_, ?_, ?_⟩, fun c hcm => ?_⟩
    · exact (sb.2 _ D.TIz).trans (hk _ _ D.TIz D.TITO D.TIi1 D.TIi2 D.TIi3 hTI)
    · exact (sb.2 _ D.TOz).trans TO'
    · exact d1.1.at' fun o q => (sb.2 _ D.zi1.symm).trans q
    · exact d2.1.at' fun o q => (sb.2 _ D.zi2.symm).trans q
    · exact d3.1.at' fun o q => (sb.2 _ D.zi3.symm).trans q
    · have hlt : c < s.heap.objs.size := by
        have e' : c = z ∨ c = TI ∨ c = TO ∨ c = i1 ∨ c = i2 ∨ c = i3 := by simpa using hcm
        rcases e' with q | q | q | q | q | q
        · rw [q]; exact hzl
        · rw [q]; exact Heap.lt_size hTI
        · rw [q]; exact Heap.lt_size hTO
        · rw [q]; obtain ⟨_, e1, _⟩ := h1.live; exact Heap.lt_size e1
        · rw [q]; obtain ⟨_, e2, _⟩ := h2.live; exact Heap.lt_size e2
        · rw [q]; obtain ⟨_, e3, _⟩ := h3.live; exact Heap.lt_size e3
      rw [upd_ne (Nat.ne_of_lt hlt)]
      exact (hf c hcm).1
  done := by
    intro X hP hw hK hc i pins s σ H E I hf st hg
    subst hP hw hK
    obtain ⟨hz, hTI, ⟨x0, y0, v0, hTO⟩, h1, h2, h3⟩ := st
    obtain ⟨xs, ys, vs, hqx, hqy, hqv, hend⟩ := hg
    obtain ⟨its, rv, p, _⟩ := sqK_of I hqx
    obtain ⟨its2, rv2, p2, _⟩ := sqK_of I hqy
    obtain ⟨its3, rv3, p3, _⟩ := sqK_of I hqv
    have l1 := rv.length
    have l2 := rv2.length
    have l3 := rv3.length
    have hh : X.A.in1.handled = none := I.ok.hd hc
    obtain ⟨n1, St1, D1, s1, b1, c1⟩ := draws_at (prog := X.prog) (w := X.w) hh k1 i1 a D.i1a.symm its.toArray i h1 p
    obtain ⟨n2, St2, D2, s2, b2, c2⟩ := draws_at (prog := X.prog) (w := X.w) hh k2 i2 b D.i2b.symm its2.toArray i h2 p2
    obtain ⟨n3, St3, D3, s3, b3, c3⟩ := draws_at (prog := X.prog) (w := X.w) hh k3 i3 d D.i3c.symm its3.toArray i h3 p3
    refine wpAny_pyNext_zipD3_end D.sep D1 D2 D3 hz hTI hTO s1 s2 s3 b1 b2 b3 ?_ fun h' tk hk => ⟨rfl, I.turnedL (t' := tk) (ch := [z, TI, TO, i1, i2, i3]) (fun c o hb q =>
      hk c o (fun q' => hb (by simp [q'])) (fun q' => hb (by simp [q'])) (fun q' => hb (by simp [q'])) (fun q' => hb (by simp [q'])) (fun q' => hb (by simp [q'])) q) hf⟩
    rcases hend with q | q | q
    · exact .inl (c1 (by simp; omega))
    · exact .inr (.inl (c2 (by simp; omega)))
    · exact .inr (.inr (c3 (by simp; omega)))
  self := fun A i s Q E st h => wpAny_pyIter_zip st.1 h
def iZip3 (K : PySem.W.Frag) (ta : TA) : TI := fun σ H R => ta σ H fun vs H1 => ∃ k1 k2 k3 a b c xs ys zs, vs = [.ref a, .ref b, .ref c] ∧ SqK k1 K H1 a xs ∧ SqK k2 K H1 b ys ∧ SqK k3 K H1 c zs ∧ R (Itz3 k1 k2 k3 K a b c) H1
theorem pi_zip3 {X : Cx} {e e2 e3 : Expr} {ta : TA} {p pos tpos : Pos} {elts : List Expr} {kk : Nat} (hg : Gl X "zip") (hm : X.mg "zip" = none) (ha : PA X [e, e2, e3] ta)
    (hs : starEach [e, e2, e3] X.env = (false, eval e X.env) :: starEach [e2, e3] X.env := by rfl) (hpl : (backTo pos (starEach [e2, e3] X.env)).any (·.1) = false := by rfl) :
    PI X (.Tuple elts kk tpos) (.Call (.Name "zip" p) [e, e2, e3] [] pos) (iZip3 X.K ta) := by
  refine ⟨fun pins s σ H R I h => ?_⟩
  refine Call_ (ld_blt I hg hm PyProof.Rows.boot_zip (PyProof.Rows.callWith_type1 (thn (ha.run pos pins s σ H _ I h) fun us s1 ⟨vs, H1, I1, r1, q1⟩ => ?_) hs hpl))
  obtain ⟨k1, k2, k3, a, b, c, xs, ys, zs, ex, hqx, hqy, hqz, q⟩ := q1
  subst ex
  cases r1 with
  | cons r rr =>
    cases rr with
    | cons r' rr =>
      cases rr with
      | cons r'' rr =>
        cases rr
        cases r
        cases r'
        cases r''
        have fresh6 : ∀ c, c ∈ [s1.heap.objs.size + 5, s1.heap.objs.size + 3, s1.heap.objs.size + 4, s1.heap.objs.size, s1.heap.objs.size + 1, s1.heap.objs.size + 2] → FpOk X pins H1 c := fun c hcm => by
          have e' : c = s1.heap.objs.size + 5 ∨ c = s1.heap.objs.size + 3 ∨ c = s1.heap.objs.size + 4 ∨ c = s1.heap.objs.size ∨ c = s1.heap.objs.size + 1 ∨ c = s1.heap.objs.size + 2 := by simpa using hcm
          have hle : s1.heap.objs.size ≤ c := by
            rcases e' with z | z | z | z | z | z
            · rw [z]; exact Nat.le_add_right _ _
            · rw [z]; exact Nat.le_add_right _ _
            · rw [z]; exact Nat.le_add_right _ _
            · rw [z]; exact Nat.le_refl _
            · rw [z]; exact Nat.le_add_right _ _
            · rw [z]; exact Nat.le_add_right _ _
          exact I1.fpOk hle (I1.hok.fresh hle)
        obtain ⟨its, rv, p1, la⟩ := sqK_of I1 hqx
        obtain ⟨its2, rv2, p2, lb⟩ := sqK_of I1 hqy
        obtain ⟨its3, rv3, p3, lc⟩ := sqK_of I1 hqz
        refine zip_begins3 (beginsK k1 a its.toArray) (beginsK k2 b its2.toArray) (beginsK k3 c its3.toArray) p1 p2 p3 fun h' hz hTI hTO h1 h2 h3 hsz hk => wpAny_pyIter_zip hz ?_
        have I2 : Inv X pins σ H1 { s1 with heap := h' } := I1.kept (t' := s1.toks) hk
        exact ⟨s1.heap.objs.size + 5, [s1.heap.objs.size + 5, s1.heap.objs.size + 3, s1.heap.objs.size + 4, s1.heap.objs.size, s1.heap.objs.size + 1, s1.heap.objs.size + 2], _, _, H1, rfl, I2, turn_zip3 (ap3_new s1.heap.objs.size a b c la lb lc), ⟨hz, hTI, ⟨_, _, _, hTO⟩, itK_new h1, itK_new h2, itK_new h3⟩, fresh6, q⟩
/-! the layer -/
/-- the items of a list or a tuple, and what must stand -/
def rdk (t : T) (G : GH) : Option (Bool × List W × Src) := match rdl t G with
  | some ws => some (false, ws, srcOf t ws)
  | none => match rdt t with
    | some ws => some (true, ws, [])
    | none => none
section
variable {X : Cx} {ca : Nat → Addr} {Wx : WX} {pos : Pos} {tg : Expr}
theorem rdk_of {K : PySem.W.Frag} {ρ : List Addr} {G : GH} {H H0 : Hp} {v : V} {t : T} {k : Bool} {ws : List W} {src : Src} (r : Rep K ca ρ G H) (q : RelT K ca H0 ρ H v t) (h : rdk t G = some (k, ws, src)) :
    ∃ a vs, v = .ref a ∧ SqK k K H a vs ∧ RelWs K ca ρ H vs ws ∧ ∀ ρ' (G' : GH) H', Ext ρ H ρ' H' → Rep K ca ρ' G' H' → still src G' = true → ∃ vs, SqK k K H' a vs ∧ RelWs K ca ρ' H' vs ws := by
  unfold rdk at h
  cases e : rdl t G with
  | some us =>
    rw [e] at h
    cases h
    obtain ⟨a, vs, rfl, hv, qs⟩ := rdl_of r q e
    refine ⟨a, vs, rfl, hv, qs, fun ρ' G' H' x r' hs => ?_⟩
    obtain ⟨b, vs2, e2, hv2, qs2⟩ := rdl_later q e r x r' hs
    cases e2
    exact ⟨vs2, hv2, qs2⟩
  | none =>
    rw [e] at h
    cases e1 : rdt t with
    | none => rw [e1] at h; cases h
    | some us =>
      rw [e1] at h
      cases h
      obtain ⟨a, vs, rfl, hv, qs⟩ := rdt_of q e1
      exact ⟨a, vs, rfl, hv, qs, fun ρ' G' H' x r' hs => ⟨vs, (r.stay x).sqT hv, relWs_ext qs r x⟩⟩
def iterZm (ts : List T) (G : GH) : R (List W × Src) := match ts with
  | [t, u] => match rdk t G, rdk u G with
    | some (_, ws, s1), some (_, us, s2) => .ok (zipW ws us, s1 ++ s2) G
    | _, _ => .bad
  | _ => .bad
def zip3W (ws us xs : List W) : List W := (ws.zip (us.zip xs)).map fun p => .tup [p.1, p.2.1, p.2.2]
def iterZ3 (ts : List T) (G : GH) : R (List W × Src) := match ts with
  | [t, u, v] => match rdk t G, rdk u G, rdk v G with
    | some (_, ws, s1), some (_, us, s2), some (_, xs, s3) => .ok (zip3W ws us xs, s1 ++ (s2 ++ s3)) G
    | _, _, _ => .bad
  | _ => .bad
theorem still_l {a b : Src} {G : GH} (h : still (a ++ b) G = true) : still a G = true := still_iff.mpr fun p hp => still_iff.mp h p (List.mem_append_left _ hp)
theorem still_r {a b : Src} {G : GH} (h : still (a ++ b) G = true) : still b G = true := still_iff.mpr fun p hp => still_iff.mp h p (List.mem_append_right _ hp)
theorem tri_new {K : PySem.W.Frag} {ρ : List Addr} {G : GH} {H : Hp} {p : Addr} {x y z : V} {w u t : W} (r : Rep K ca ρ G H) (hp : H p = none) (q : RelW K ca ρ H x w) (q2 : RelW K ca ρ H y u) (q3 : RelW K ca ρ H z t) :
    Ext ρ H ρ (upd H p (.tup [x, y, z])) ∧ Rep K ca ρ G (upd H p (.tup [x, y, z])) ∧ RelW K ca ρ (upd H p (.tup [x, y, z])) (.ref p) (.tup [w, u, t]) :=
  ⟨.laid hp, r.laid hp, RelW.tup' (.of upd_same) (.cons (q.ext r (.laid hp)) (.cons (q2.ext r (.laid hp)) (.cons (q3.ext r (.laid hp)) .nil)))⟩
theorem itz2_ok {K : PySem.W.Frag} {ρ : List Addr} {H : Hp} {k1 k2 : Bool} {a b : Addr} {ws us : List W} {s1 s2 : Src}
    (h1 : ∀ ρ' (G' : GH) H', Ext ρ H ρ' H' → Rep K ca ρ' G' H' → still s1 G' = true → ∃ vs, SqK k1 K H' a vs ∧ RelWs K ca ρ' H' vs ws)
    (h2 : ∀ ρ' (G' : GH) H', Ext ρ H ρ' H' → Rep K ca ρ' G' H' → still s2 G' = true → ∃ vs, SqK k2 K H' b vs ∧ RelWs K ca ρ' H' vs us) : ItOk K ca (Itz2 k1 k2 K a b) (zipW ws us) (s1 ++ s2) ρ H := by
  intro i ρ' G' H' x r' hs
  obtain ⟨vs, hv, qs⟩ := h1 ρ' G' H' x r' (still_l hs)
  obtain ⟨vs2, hv2, qs2⟩ := h2 ρ' G' H' x r' (still_r hs)
  have hl : (zipW ws us).length = min ws.length us.length := by unfold zipW; simp
  refine ⟨fun w hw => ?_, fun hl' => ⟨vs, vs2, hv, hv2, by rw [qs.length, qs2.length]; omega⟩⟩
  unfold zipW at hw
  rw [List.getElem?_map] at hw
  cases e0 : (ws.zip us)[i]? with
  | none => rw [e0] at hw; cases hw
  | some p =>
    rw [e0] at hw
    have hw' : W.tup [p.1, p.2] = w := by simpa using hw
    obtain ⟨hi1, hi2⟩ := List.getElem?_zip_eq_some.mp e0
    obtain ⟨v, e1, q1⟩ := relWs_get qs hi1
    obtain ⟨v2, e12, q12⟩ := relWs_get qs2 hi2
    refine ⟨⟨vs, vs2, v, v2, hv, hv2, e1, e12⟩, fun y H2 hy => ?_⟩
    obtain ⟨T, z, z2, rfl, hT, rfl, hy, hy2⟩ := hy
    have e2 := hy vs hv
    rw [e1] at e2
    cases e2
    have e22 := hy2 vs2 hv2
    rw [e12] at e22
    cases e22
    rw [← hw']
    exact pair_new r' hT q1 q12
theorem itz3_ok {K : PySem.W.Frag} {ρ : List Addr} {H : Hp} {k1 k2 k3 : Bool} {a b c : Addr} {ws us xs : List W} {s1 s2 s3 : Src}
    (h1 : ∀ ρ' (G' : GH) H', Ext ρ H ρ' H' → Rep K ca ρ' G' H' → still s1 G' = true → ∃ vs, SqK k1 K H' a vs ∧ RelWs K ca ρ' H' vs ws)
    (h2 : ∀ ρ' (G' : GH) H', Ext ρ H ρ' H' → Rep K ca ρ' G' H' → still s2 G' = true → ∃ vs, SqK k2 K H' b vs ∧ RelWs K ca ρ' H' vs us)
    (h3 : ∀ ρ' (G' : GH) H', Ext ρ H ρ' H' → Rep K ca ρ' G' H' → still s3 G' = true → ∃ vs, SqK k3 K H' c vs ∧ RelWs K ca ρ' H' vs xs) : ItOk K ca (Itz3 k1 k2 k3 K a b c) (zip3W ws us xs) (s1 ++ (s2 ++ s3)) ρ H := by
  intro i ρ' G' H' x r' hs
  obtain ⟨vs, hv, qs⟩ := h1 ρ' G' H' x r' (still_l hs)
  obtain ⟨vs2, hv2, qs2⟩ := h2 ρ' G' H' x r' (still_l (still_r hs))
  obtain ⟨vs3, hv3, qs3⟩ := h3 ρ' G' H' x r' (still_r (still_r hs))
  have hl : (zip3W ws us xs).length = min ws.length (min us.length xs.length) := by unfold zip3W; simp
  refine ⟨fun w hw => ?_, fun hl' => ⟨vs, vs2, vs3, hv, hv2, hv3, by rw [qs.length, qs2.length, qs3.length]; omega⟩⟩
  unfold zip3W at hw
  rw [List.getElem?_map] at hw
  cases e0 : (ws.zip (us.zip xs))[i]? with
  | none => rw [e0] at hw; cases hw
  | some p =>
    rw [e0] at hw
    have hw' : W.tup [p.1, p.2.1, p.2.2] = w := by simpa using hw
    obtain ⟨hi1, hi'⟩ := List.getElem?_zip_eq_some.mp e0
    obtain ⟨hi2, hi3⟩ := List.getElem?_zip_eq_some.mp hi'
    obtain ⟨v, e1, q1⟩ := relWs_get qs hi1
    obtain ⟨v2, e12, q12⟩ := relWs_get qs2 hi2
    obtain ⟨v3, e13, q13⟩ := relWs_get qs3 hi3
    refine ⟨⟨vs, vs2, vs3, v, v2, v3, hv, hv2, hv3, e1, e12, e13⟩, fun y H2 hy => ?_⟩
    obtain ⟨T, z, z2, z3, rfl, hT, rfl, hy, hy2, hy3⟩ := hy
    have e2 := hy vs hv
    rw [e1] at e2
    cases e2
    have e22 := hy2 vs2 hv2
    rw [e12] at e22
    cases e22
    have e23 := hy3 vs3 hv3
    rw [e13] at e23
    cases e23
    rw [← hw']
    exact tri_new r' hT q1 q12 q13
theorem relTs_three {K : PySem.W.Frag} {ρ : List Addr} {H0 H : Hp} {vs : List V} {t u w : T} (q : RelTs K ca H0 ρ H vs [t, u, w]) : ∃ v z y, vs = [v, z, y] ∧ RelT K ca H0 ρ H v t ∧ RelT K ca H0 ρ H z u ∧ RelT K ca H0 ρ H y w := by
  cases q with
  | cons q t =>
    obtain ⟨z, y, rfl, q2, q3⟩ := relTs_two t
    exact ⟨_, _, _, rfl, q, q2, q3⟩
theorem i_zipm {e e2 : Expr} {elts : List Expr} {kk : Nat} {p tpos : Pos} {m : M (List T)} (hg : Gl X "zip") (hm : X.mg "zip" = none) (ha : PA X [e, e2] (tB X.K ca Wx m)) (hs : starEach [e, e2] X.env = (false, eval e X.env) :: starEach [e2] X.env := by rfl) (hpl : (backTo pos (starEach [e2] X.env)).any (·.1) = false := by rfl) :
    PI X (.Tuple elts kk tpos) (.Call (.Name "zip" p) [e, e2] [] pos) (tI X.K ca Wx (miB iterZm m)) := by
  refine PI.weak (pi_zip2 hg hm ha hs hpl) fun σ H R ⟨ρ, G, τ, r, sl, h⟩ => ?_
  refine tB.seq r sl h fun ts G1 ρ1 H1 vs x1 r1 s1 q1 h1 => ?_
  unfold iterZm at h1
  split at h1
  · rename_i t u
    obtain ⟨v, v2, rfl, qv, qu⟩ := relTs_two q1
    split at h1
    · rename_i k1 ws z1 k2 us z2 e0 e1
      obtain ⟨a, vs, rfl, hv, qs, l1⟩ := rdk_of r1 qv e0
      obtain ⟨b, vs2, rfl, hv2, qs2, l2⟩ := rdk_of r1 qu e1
      exact ⟨k1, k2, a, b, vs, vs2, rfl, hv, hv2, h1 ρ1 H1 .refl r1 _ (itz2_ok l1 l2)⟩
    · exact h1.elim
  · exact h1.elim
theorem i_zip3 {e e2 e3 : Expr} {elts : List Expr} {kk : Nat} {p tpos : Pos} {m : M (List T)} (hg : Gl X "zip") (hm : X.mg "zip" = none) (ha : PA X [e, e2, e3] (tB X.K ca Wx m)) (hs : starEach [e, e2, e3] X.env = (false, eval e X.env) :: starEach [e2, e3] X.env := by rfl) (hpl : (backTo pos (starEach [e2, e3] X.env)).any (·.1) = false := by rfl) :
    PI X (.Tuple elts kk tpos) (.Call (.Name "zip" p) [e, e2, e3] [] pos) (tI X.K ca Wx (miB iterZ3 m)) := by
  refine PI.weak (pi_zip3 hg hm ha hs hpl) fun σ H R ⟨ρ, G, τ, r, sl, h⟩ => ?_
  refine tB.seq r sl h fun ts G1 ρ1 H1 vs x1 r1 s1 q1 h1 => ?_
  unfold iterZ3 at h1
  split at h1
  · rename_i t u w
    obtain ⟨v, v2, v3, rfl, qv, qu, qw⟩ := relTs_three q1
    split at h1
    · rename_i k1 ws z1 k2 us z2 k3 xs z3 e0 e1 e2
      obtain ⟨a, vs, rfl, hv, qs, l1⟩ := rdk_of r1 qv e0
      obtain ⟨b, vs2, rfl, hv2, qs2, l2⟩ := rdk_of r1 qu e1
      obtain ⟨c, vs3, rfl, hv3, qs3, l3⟩ := rdk_of r1 qw e2
      exact ⟨k1, k2, k3, a, b, c, vs, vs2, vs3, rfl, hv, hv2, hv3, h1 ρ1 H1 .refl r1 _ (itz3_ok l1 l2 l3)⟩
    · exact h1.elim
  · exact h1.elim
end
end Sy
set_option Elab.async false
set_option linter.all false
set_option maxRecDepth 100000
set_option maxHeartbeats 4000000
namespace Sy
open PySem PySem.Spec PyProof.Rows L2

/-! where an error is handled: a walk's end, a tuple parted, a list built by a walk -/
section
variable {prog : Program} {w : World} {A : Around} {E : Value → Shared → Prop} {s : Shared}
theorem hot_ne {x1 it : Addr} {h : Heap} (hot : HotX.HotAt A x1 h) {o : Obj} {u v : Value} (ho : h.get? it = some o) (hd : o.data = .fields #[u, v]) : x1 ≠ it := by
  rintro rfl
  obtain ⟨_, o1, vs, e, d, c⟩ := hot
  rw [ho] at e
  cases e
  rw [hd] at d
  cases d
  simp at c
theorem hot_upd {x1 it : Addr} {h : Heap} {f : Obj → Obj} (hot : HotX.HotAt A x1 h) (hne : x1 ≠ it) : HotX.HotAt A x1 (h.update it f) := by
  obtain ⟨hh, o1, vs, e, d, c⟩ := hot
  refine ⟨hh, o1, vs, ?_, d, c⟩
  rw [Heap.get?_update_other _ _ (Ne.symm hne)]
  exact e
theorem hot_push {x1 : Addr} {h : Heap} {o : Obj} (hot : HotX.HotAt A x1 h) : HotX.HotAt A x1 (h.push o) := by
  obtain ⟨hh, o1, vs, e, d, c⟩ := hot
  exact ⟨hh, o1, vs, Heap.get?_push_of_some _ e, d, c⟩
theorem hot_keep {x1 : Addr} {h h' : Heap} (hot : HotX.HotAt A x1 h) (k : ∀ o, h.get? x1 = some o → h'.get? x1 = some o) : HotX.HotAt A x1 h' := by
  obtain ⟨hh, o1, vs, e, d, c⟩ := hot
  exact ⟨hh, o1, vs, k _ e, d, c⟩
theorem next_list_hot {it l x1 : Addr} {i : Nat} {items} {Q : Option Value → Shared → Prop} (hot : HotX.HotAt A x1 s.heap)
    (hit : s.heap.IsListIter it l i) (hl : s.heap.IsList l items) (hx : items[i]? = none)
    (hQ : ∀ h', Heap.ExtBut it s.heap h' → Q none { s with heap := h' }) : wpAny (model prog w) A (pyNext (.ref it)) Q E s := by
  obtain ⟨o, ho, hc, hd⟩ := id hit
  obtain ⟨ol, hol, _, nl, hdl⟩ := hl
  have hne := hot_ne hot ho hd
  unfold pyNext
  refine wpAny_bind (wpAny_attempt (wpAny_callSpecial?_slot (name := Str.ofString "__next__") hit.typeIs slot_listiter_next
    (wpAny_call_entry slot_listiter_next hit.typeIs entry_listiter_next ?_ (args_listiter_next _))))
  show wpAny _ _ (field (.ref it) 0 >>= _) _ _ s
  refine wpAny_bind (wpAny_field ho hd (x := .ref l) rfl ?_)
  show wpAny _ _ (if (Value.ref l == Value.none) = true then _ else _) _ _ s
  rw [if_neg (show ¬ ((Value.ref l == Value.none) = true) from Bool.false_ne_true)]
  show wpAny _ _ (field (.ref it) 1 >>= _) _ _ s
  refine wpAny_bind (wpAny_field ho hd (x := .int i 0) rfl ?_)
  show wpAny _ _ (seqItems? (.ref l) >>= _) _ _ s
  refine wpAny_bind (wpAny_seqItems hol hdl ?_)
  simp only [Int.toNat_natCast, hx]
  refine wpAny_bind (wpAny_rule (wpAny_bind (wpAny_setField ho hd (by simp) ?_)))
  show wpAny _ _ (newExc (.type "StopIteration") [] >>= _) _ _ _
  refine wpAny_bind ?_
  simp only [newExc, newTuple]
  refine wpAny_bind (wpAny_newObj_type ?_ (by size_fits))
  refine wpAny_bind (m := firstArgMember _ _) (wpAny_of_eq (a := Value.none) (by first | rfl | (simp only [firstArgMember]; rfl)) ?_)
  refine wpAny_newObj_type ?_ (by size_fits)
  have hot2 := hot_push (o := { cls := .type "tuple", data := .seq #[] }) (hot_upd (f := Obj.mapFields (·.setIfInBounds 0 Value.none)) hot hne)
  obtain ⟨hh, o1, vs1, h1, d1, c1⟩ := hot2
  refine HotX.raiseNew_hot ⟨hh, o1, vs1, Heap.get?_push_of_some _ h1, d1, c1⟩ (Nat.ne_of_lt (Heap.lt_size h1)) (Heap.get?_push_size _ rfl) rfl (by first | (simp; done) | (simp; omega) | (simp only [Array.size_append]; simp; omega)) ?_
  refine wpAny_bind (wpAny_isInstance (T := "StopIteration") (b := true) ⟨_, Heap.get?_update_self _ (Heap.get?_push_size _ rfl) rfl, rfl⟩ isSubtype_stop ?_)
  refine wpAny_pure (hQ _ fun b o hb e => ?_)
  have e2 := ((Heap.SameBut.update s.heap it (Obj.mapFields (·.setIfInBounds 0 Value.none))).extBut.push { cls := .type "tuple", data := .seq #[] }) b o hb e
  refine Eq.trans (Heap.get?_update_other _ _ (Nat.ne_of_gt (Heap.lt_size e2))) ?_
  exact Heap.get?_push_of_some _ e2
theorem next_tuple_hot {it l x1 : Addr} {i : Nat} {items} {Q : Option Value → Shared → Prop} (hot : HotX.HotAt A x1 s.heap)
    (hit : IsTupIter s.heap it l i) (hl : IsTup s.heap l items) (hx : items[i]? = none)
    (hQ : ∀ h', Heap.ExtBut it s.heap h' → Q none { s with heap := h' }) : wpAny (model prog w) A (pyNext (.ref it)) Q E s := by
  obtain ⟨o, ho, hc, hd⟩ := id hit
  obtain ⟨ol, hol, _, nl, hdl⟩ := hl
  have hne := hot_ne hot ho hd
  unfold pyNext
  refine wpAny_bind (wpAny_attempt (wpAny_callSpecial?_slot (name := Str.ofString "__next__") hit.typeIs slot_tupleiter_next
    (wpAny_call_entry slot_tupleiter_next hit.typeIs entry_tupleiter_next ?_ (args_tupleiter_next _))))
  show wpAny _ _ (field (.ref it) 0 >>= _) _ _ s
  refine wpAny_bind (wpAny_field ho hd (x := .ref l) rfl ?_)
  show wpAny _ _ (if (Value.ref l == Value.none) = true then _ else _) _ _ s
  rw [if_neg (show ¬ ((Value.ref l == Value.none) = true) from Bool.false_ne_true)]
  show wpAny _ _ (field (.ref it) 1 >>= _) _ _ s
  refine wpAny_bind (wpAny_field ho hd (x := .int i 0) rfl ?_)
  show wpAny _ _ (seqItems? (.ref l) >>= _) _ _ s
  refine wpAny_bind (wpAny_seqItems hol hdl ?_)
  simp only [Int.toNat_natCast, hx]
  refine wpAny_bind (wpAny_rule (wpAny_bind (wpAny_setField ho hd (by simp) ?_)))
  show wpAny _ _ (newExc (.type "StopIteration") [] >>= _) _ _ _
  refine wpAny_bind ?_
  simp only [newExc, newTuple]
  refine wpAny_bind (wpAny_newObj_type ?_ (by size_fits))
  refine wpAny_bind (m := firstArgMember _ _) (wpAny_of_eq (a := Value.none) (by first | rfl | (simp only [firstArgMember]; rfl)) ?_)
  refine wpAny_newObj_type ?_ (by size_fits)
  have hot2 := hot_push (o := { cls := .type "tuple", data := .seq #[] }) (hot_upd (f := Obj.mapFields (·.setIfInBounds 0 Value.none)) hot hne)
  obtain ⟨hh, o1, vs1, h1, d1, c1⟩ := hot2
  refine HotX.raiseNew_hot ⟨hh, o1, vs1, Heap.get?_push_of_some _ h1, d1, c1⟩ (Nat.ne_of_lt (Heap.lt_size h1)) (Heap.get?_push_size _ rfl) rfl (by first | (simp; done) | (simp; omega) | (simp only [Array.size_append]; simp; omega)) ?_
  refine wpAny_bind (wpAny_isInstance (T := "StopIteration") (b := true) ⟨_, Heap.get?_update_self _ (Heap.get?_push_size _ rfl) rfl, rfl⟩ isSubtype_stop ?_)
  refine wpAny_pure (hQ _ fun b o hb e => ?_)
  have e2 := ((Heap.SameBut.update s.heap it (Obj.mapFields (·.setIfInBounds 0 Value.none))).extBut.push { cls := .type "tuple", data := .seq #[] }) b o hb e
  refine Eq.trans (Heap.get?_update_other _ _ (Nat.ne_of_gt (Heap.lt_size e2))) ?_
  exact Heap.get?_push_of_some _ e2
theorem unpackItems_hot {t x1 : Addr} {items : Array Value} {Q : List Value → Shared → Prop} (hot : HotX.HotAt A x1 s.heap) (ht : IsTup s.heap t items)
    (hQ : ∀ h', Heap.ExtBut s.heap.objs.size s.heap h' → Q items.toList { s with heap := h' }) : wpAny (model prog w) A (unpackItems (.ref t) items.size none) Q E s := by
  have hlt : t ≠ s.heap.objs.size := by obtain ⟨o, ho, _⟩ := ht; exact Nat.ne_of_lt (Heap.lt_size ho)
  have hx1 : x1 ≠ s.heap.objs.size := by obtain ⟨_, o, _, ho, _⟩ := hot; exact Nat.ne_of_lt (Heap.lt_size ho)
  unfold unpackItems
  refine wpAny_bind ?_
  · unfold notIterableAtAll
    refine wpAny_bind (wpAny_specialOf ht.typeIs slot_tuple_iter.lookup ?_)
    refine wpAny_pure ?_
    simp only [Bool.false_eq_true, if_false]
    refine wpAny_bind (wpAny_holding (iter_tuple ht ?_))
    refine wpAny_bind (wpAny_holding (draw_tuple hlt items.size 0 _ _ ⟨_, Heap.get?_push_size _ rfl, rfl, rfl⟩ (ht.push _) (by omega) fun h₁ hit₁ hs₁ => ?_))
    have hall : List.take items.size (List.drop 0 items.toList) = items.toList := by
      rw [List.drop_zero]; exact List.take_of_length_le (by simp)
    rw [hall]
    rw [if_neg (by simp)]
    have ht₁ : IsTup h₁ t items := (ht.push _).extBut hs₁.extBut hlt
    have hot₁ : HotX.HotAt A x1 h₁ := hot_keep (hot_push hot) fun o e => hs₁.extBut x1 o hx1 e
    refine wpAny_bind (wpAny_holding (next_tuple_hot hot₁ hit₁ ht₁ (by simp) fun h₂ he₂ => ?_))
    simp only [Option.isSome_none, Bool.false_eq_true, if_false]
    refine wpAny_pure (hQ h₂ fun b o hb e => he₂ b o hb (hs₁.extBut b o hb (Heap.get?_push_of_some _ e)))
theorem assign_tup_hot {env : Env} {elts : List Expr} {k} {pos : Pos} {t x1 : Addr} {items : Array Value} {Q : Unit → Shared → Prop} (hot : HotX.HotAt A x1 s.heap) (ht : IsTup s.heap t items)
    (hn : (assignEach elts env).length = items.size) (hstar : (assignEach elts env).findIdx? (·.1) = none)
    (h : ∀ h', Heap.ExtBut s.heap.objs.size s.heap h' → wpAny (model prog w) A (assignInOrder ((assignEach elts env).map (·.2)) items.toList) Q E { s with heap := h' }) :
    wpAny (model prog w) A (assign (.Tuple elts k pos) env (.ref t)) Q E s := by
  rw [assign_Tuple]
  refine wpAny_bind (wpAny_standAt ?_)
  unfold unpack
  rw [hn, hstar]
  exact wpAny_bind (wpAny_holding (unpackItems_hot hot ht h))
end
/-- every state of this context holds the error at hand -/
def HotI (X : Cx) : Prop := ∀ (pins : List (Addr × Obj)) (σ : SSt) (H : Hp) (s : Shared), Inv X pins σ H s → ∃ x1, HotX.HotAt X.A x1 s.heap
theorem hotI_has {X : Cx} {ca : Nat → Addr} {c : Nat} {a : Addr} (h : Has X ca c a) : HotI X := fun pins σ H s I => by
  obtain ⟨h1, oe, h2, _, vs, h3, h4⟩ := h
  exact ⟨a, h1, oe, vs, (I.pin _ (List.mem_append_left _ h2)).1, h3, h4⟩
theorem hotI_blk {X : Cx} {ca : Nat → Addr} {c : Nat} {a : Addr} {pins : List (Addr × Obj)} {σ : SSt} {H : Hp} {s : Shared} {scope : Scope} {ce : Env} {fp : List Addr} (I : Inv X pins σ H s) (h : Has X ca c a) (hf : ∀ b ∈ fp, FpOk X pins H b) : HotI (X.blk s H scope ce fp) := fun pins' σ' H' s' I' => by
  obtain ⟨h1, oe, h2, _, vs, h3, h4⟩ := h
  have P := I.pin (a, oe) (List.mem_append_left _ h2)
  refine ⟨a, h1, oe, vs, I'.base.keep a oe P.1 P.2.1 (fun z => ?_) (fun z => ?_), h3, h4⟩
  · rcases List.mem_cons.mp (I.stkSub a z) with z | z
    · exact P.2.2.1 z
    · exact P.2.2.2.1 z
  · exact (hf a z).2.2.2.2.2 (a, oe) (List.mem_append_left _ h2) rfl
theorem pg_tupH {X : Cx} {pos : Pos} {es : List Expr} {k : Nat} {t : TGs} {n : Nat} (hot : HotI X) (h : PGs X es t)
    (hn : (assignEach es X.env).length = n := by rfl) (hst : (assignEach es X.env).findIdx? (·.1) = none := by rfl) : PG X (.Tuple es k pos) (gTup X.K n t) := by
  refine ⟨fun pins s σ H v u Q I r hw => ?_⟩
  obtain ⟨a, xs, e1, hq, hl, hw⟩ := hw
  subst e1
  cases r
  obtain ⟨its, rv, ht, hz⟩ := I.tuple hq
  obtain ⟨x1, hot1⟩ := hot _ _ _ _ I
  refine assign_tup_hot hot1 ht (by simp [hn, ← hl, rv.length]) hst fun h' hx => ?_
  have I1 : Inv X pins σ H { s with heap := h' } := I.kept (t' := s.toks) fun b o e => hx b o (Nat.ne_of_lt (Heap.lt_size e)) e
  exact h.run pins _ σ H xs _ Q I1 (by simpa using rv) hw
structure TurnV (P : Program) (w : World) (K : PySem.W.Frag) (tg : Expr) (J : It) (fp : List Addr) (it : Addr) (tn : Nat → Heap → Prop) : Prop where
  mem : it ∈ fp
  obj : ∀ i h, tn i h → ∀ b ∈ fp, ∃ o, h.get? b = some o ∧ ∀ v, o.data ≠ .cell v
  keep : ∀ i h h', tn i h → (∀ b ∈ fp, ∀ o, h.get? b = some o → h'.get? b = some o) → tn i h'
  item : ∀ (X : Cx), X.prog = P → X.w = w → X.K = K → HotI X → ∀ (i : Nat) (pins : List (Addr × Obj)) (s : Shared) (σ : SSt) (H : Hp) (E : Value → Shared → Prop), Inv X pins σ H s → (∀ b ∈ fp, FpOk X pins H b) → tn i s.heap → J.go i H →
    wpAny (model P w) X.A (pyNext (.ref it)) (fun r s1 => ∃ u, r = some u ∧
      wpAny (model P w) X.A (letOwnedTupleGo tg (.ref it) u) (fun _ s2 => ∃ x H', Inv X pins σ H' s2 ∧ RelV x u ∧ J.yld i H x H' ∧ tn (i + 1) s2.heap ∧ ∀ b ∈ fp, H' b = none) E s1) E s
  done : ∀ (X : Cx), X.prog = P → X.w = w → X.K = K → HotI X → ∀ (i : Nat) (pins : List (Addr × Obj)) (s : Shared) (σ : SSt) (H : Hp) (E : Value → Shared → Prop), Inv X pins σ H s → (∀ b ∈ fp, FpOk X pins H b) → tn i s.heap → J.stop i H →
    wpAny (model P w) X.A (pyNext (.ref it)) (fun r s1 => r = none ∧ Inv X pins σ H s1) E s
  self : ∀ (A : Around) (i : Nat) (s : Shared) (Q : Value → Shared → Prop) (E : Value → Shared → Prop), tn i s.heap → Q (.ref it) s → wpAny (model P w) A (pyIter (.ref it)) Q E s
theorem turn_listV {P : Program} {w : World} {K : PySem.W.Frag} {tg : Expr} (a it : Addr) : TurnV P w K tg (Itl K a) [it] it (fun i h => h.IsListIter it a i) where
  mem := (turn_list (P := P) (w := w) (K := K) (tg := tg) a it).mem
  obj := (turn_list (P := P) (w := w) (K := K) (tg := tg) a it).obj
  keep := (turn_list (P := P) (w := w) (K := K) (tg := tg) a it).keep
  item := by
    intro X hP hw hK hc i pins s σ H E I hf st hg
    subst hP hw hK
    obtain ⟨xs, x, hq, hx⟩ := hg
    obtain ⟨its, rv, p, hz⟩ := I.list hq
    obtain ⟨u, hu, ru⟩ := rv.get hx
    obtain ⟨f0, f1, f2, f3, f4, f5⟩ := hf it (by simp)
    refine wpAny_pyNext_list_item st p.isList (x := u) (by simpa using hu) fun h' st' sb => ?_
    have I1 : Inv X pins σ H { s with heap := h' } := I.turned (t' := s.toks) (fun b o hb e => (sb.2 b hb).trans e) f0 f1 f3 f4 f5
    obtain ⟨o, e, c, d⟩ := id st'
    exact ⟨u, rfl, go_of (s := { s with heap := h' }) e c d (by decide) ⟨x, H, I1, ru, ⟨rfl, fun ys hy => by rw [I.list_inj hy hq]; exact hx⟩, st', fun b hb => (hf b hb).1⟩⟩
  done := by
    intro X hP hw hK hc i pins s σ H E I hf st hg
    subst hP hw hK
    obtain ⟨xs, hq, hx⟩ := hg
    obtain ⟨its, rv, p, hz⟩ := I.list hq
    obtain ⟨f0, f1, f2, f3, f4, f5⟩ := hf it (by simp)
    have hl := rv.length
    obtain ⟨x1, hot⟩ := hc _ _ _ _ I
    exact next_list_hot hot st p.isList (by simp; omega) fun h' eb => ⟨rfl, I.turned (t' := s.toks) (fun b o hb e => eb b o hb e) f0 f1 f3 f4 f5⟩
  self := (turn_list (P := P) (w := w) (K := K) (tg := tg) a it).self
def PIEV (X : Cx) (pins : List (Addr × Obj)) (σ : SSt) (tg : Expr) (R : It → Hp → Prop) (itv : Value) (s2 : Shared) : Prop :=
  ∃ (it : Addr) (fp : List Addr) (tn : Nat → Heap → Prop) (J : It) (H' : Hp), itv = .ref it ∧ Inv X pins σ H' s2 ∧ TurnV X.prog X.w X.K tg J fp it tn ∧ tn 0 s2.heap ∧ (∀ b ∈ fp, FpOk X pins H' b) ∧ R J H'
structure PIV (X : Cx) (tg iter : Expr) (wi : TI) : Prop where
  run : ∀ (pins : List (Addr × Obj)) (s : Shared) (σ : SSt) (H : Hp) (R : It → Hp → Prop), Inv X pins σ H s → wi σ H R →
    wpAny (model X.prog X.w) X.A (eval iter X.env) (fun v s1 => wpAny (model X.prog X.w) X.A (pyIter v) (PIEV X pins σ tg R) X.xe s1) X.xe s
section
variable {X : Cx} {ca : Nat → Addr} {Wx : WX} {pos : Pos} {tg : Expr}
theorem it_lstV {pins : List (Addr × Obj)} {σ : SSt} {H : Hp} {s : Shared} {R : It → Hp → Prop} {a : Addr} {vs : List V} (I : Inv X pins σ H s) (hq : SqL X.K H a vs) (q : R (Itl X.K a) H) :
    wpAny (model X.prog X.w) X.A (pyIter (.ref a)) (PIEV X pins σ tg R) X.xe s := by
  obtain ⟨its, rv, p, hz⟩ := I.list hq
  refine wpAny_pyIter_list p.isList ?_
  have J : Inv X pins σ H { s with heap := s.heap.push { cls := .type "list_iterator", data := .fields #[.ref a, rawInt 0] } } := I.kept (t' := s.toks) fun b o e => Heap.get?_push_of_some _ e
  refine ⟨s.heap.objs.size, [s.heap.objs.size], _, _, H, rfl, J, turn_listV a _, ⟨_, Heap.get?_push_size _ rfl, rfl, rfl⟩, fun b hb => ?_, q⟩
  obtain rfl : b = s.heap.objs.size := by simpa using hb
  exact I.fpOk (Nat.le_refl _) (I.hok.fresh (Nat.le_refl _))
/-- a list is walked -/
theorem i_lstV {e : Expr} {m : M T} (he : PE X e (tE X.K ca Wx m)) : PIV X tg e (tI X.K ca Wx (miL m)) := by
  refine ⟨fun pins s σ H R I ⟨ρ, G, τ, r, sl, h⟩ => ?_⟩
  refine thn (he.run pins s σ H (fun v H1 => ∃ ρ1 G1 t, RelT X.K ca H ρ1 H1 v t ∧ Rep X.K ca ρ1 G1 H1 ∧ Post X.K ca Wx σ ρ1 H1 (fun p _ ρ' H' => ∀ J, ItOk X.K ca J p.1 p.2 ρ' H' → R J H') (iterL t G1)) I ?_) fun u s1 hh => ?_
  · exact tE.seq r sl h fun t G1 ρ1 H1 v x1 r1 s1 q1 h1 => ⟨ρ1, G1, t, q1, r1, h1⟩
  · obtain ⟨v, H1, I1, rv, ρ1, G1, t, q1, r1, h1⟩ := hh
    unfold iterL at h1
    cases e : rdl t G1 with
    | none =>
      rw [e] at h1
      exact h1.elim
    | some ws =>
      rw [e] at h1
      obtain ⟨a, vs, rfl, hv, qs⟩ := rdl_of r1 q1 e
      cases rv
      exact it_lstV I1 hv (h1 ρ1 H1 .refl r1 _ (itl_ok q1 e r1))
theorem lcV_core {c : Nat} {a : Addr} {pins : List (Addr × Obj)} {s : Shared} {σ : SSt} {H : Hp} {Q : VK} {elt tg iter : Expr} {ifs : List Expr} {scope : Scope} {own : List (Str × Nat)} {pos pos' : Pos} {wi : TI} {g : TG} {tt : TT} {te : TE} {use : Option (Value → Sem Unit)} {Qf : Value → Shared → Prop}
    (hx : Has X ca c a) (hN : X.N.Nodup) (I : Inv X pins σ H s) (hi : PIV X tg iter wi) (ok : BlkOk X.N X.env.scope scope own)
    (hg : ∀ (s : Shared) (H : Hp) (C : Addr) (cl : List (Str × Addr)) (fp : List Addr), HotI (X.blk s H scope (compEnvC scope cl C X.env) fp) → PG (X.blk s H scope (compEnvC scope cl C X.env) fp) tg g) (ht : ∀ (s : Shared) (H : Hp) (C : Addr) (cl : List (Str × Addr)) (fp : List Addr), PTs (X.blk s H scope (compEnvC scope cl C X.env) fp) ifs tt)
    (he : ∀ (s : Shared) (H : Hp) (C : Addr) (cl : List (Str × Addr)) (fp : List Addr), PE (X.blk s H scope (compEnvC scope cl C X.env) fp) elt te) (hs : ∀ x, foldedSetIterable iter X.env x = pure x)
    (h : tLc wi g tt te (own.map (·.2)) σ H Q)
    (hRR : ∀ D C s' m H', Inv X pins σ H' s' → Q (.ref D) H' → s'.heap.Ns C m → FpOk X pins H' C → compPost (model X.prog X.w) X.A X.xe use Qf (.ref D) C (.ok .next) s') :
    wpAny (model X.prog X.w) X.A (comprehension (.ListComp elt [⟨tg, iter, ifs, 0⟩] scope pos) scope X.env pos' (newList []) false (eval iter X.env) use) Qf X.xe s := by
  have hfree : ∀ y ∈ scope.names, y.2 = .free → ∃ c, X.env.cells.lookup y.1 = some c := fun y hy e => by
    rcases ok.free y hy e with k | k
    · exact I.ok.has _ (.inl k)
    · exact I.ok.has _ (.inr k)
  refine wpAny_comprehension_free (use := use) rfl hs (closure_ok hfree) ok.kind (fun y hy e => by rw [ok.uniq y hy, e])
    (thn (hi.run pins s σ H _ I h) fun xv s1 hxv => thn hxv fun itv s2 h2 => ?_)
  obtain ⟨it, fp, tn, J, H2, e, I2, T, st2, f2, q⟩ := h2
  subst e
  refine wpAny_newObj_type (newEnv_comp ?_) (by show 0 ≤ sizeLine; decide)
  generalize hD : s2.heap.objs.size = D
  have hDn : H2 D = none := I2.hok.fresh (Nat.le_of_eq hD)
  obtain ⟨W, ⟨m0, w0⟩, turn⟩ := q D hDn
  generalize hs3 : ({ s2 with heap := s2.heap.push { cls := .type "list", data := .seq ([] : List Value).toArray } } : Shared) = s3
  have I3 : Inv X pins σ (upd H2 D (.lst [])) s3 := by
    rw [← hs3]
    refine I2.laid (t' := s2.toks) (fun b o e => Heap.get?_push_of_some _ e) (Nat.le_of_eq hD) ⟨Nat.zero_le _, [], 0, .nil, ?_⟩
    rw [← hD]
    exact Heap.get?_push_size _ rfl
  have h3 : s3.heap = s2.heap.push { cls := .type "list", data := .seq ([] : List Value).toArray } := by rw [← hs3]
  have sz : ∀ b ∈ fp, b < s2.heap.objs.size := fun b hb => by
    obtain ⟨o, e, _⟩ := T.obj _ _ st2 b hb
    exact Heap.lt_size e
  have f3 : ∀ b ∈ fp, FpOk X pins (upd H2 D (.lst [])) b ∧ b < s3.heap.objs.size := fun b hb => by
    have hlt := sz b hb
    refine ⟨⟨?_, (f2 b hb).2⟩, by rw [h3, Heap.size_push]; exact Nat.lt_succ_of_lt hlt⟩
    rw [upd_ne (by rw [← hD]; exact Nat.ne_of_lt hlt)]
    exact (f2 b hb).1
  have st3 : tn 0 s3.heap := T.keep _ _ _ st2 fun b _ o e => by rw [h3]; exact Heap.get?_push_of_some _ e
  have I4 := block_start I3 ok hN f3
  have hot := hotI_blk (scope := scope) (ce := compEnvC scope (cellsFrom (s3.heap.objs.size + 1) scope.names (cloFrom X.env.cells scope.names [])) s3.heap.objs.size X.env) I3 hx fun b hb => (f3 b hb).1
  have pg := hg s3 (upd H2 D (.lst [])) s3.heap.objs.size (cellsFrom (s3.heap.objs.size + 1) scope.names (cloFrom X.env.cells scope.names [])) fp hot
  have pt := ht s3 (upd H2 D (.lst [])) s3.heap.objs.size (cellsFrom (s3.heap.objs.size + 1) scope.names (cloFrom X.env.cells scope.names [])) fp
  have pe := he s3 (upd H2 D (.lst [])) s3.heap.objs.size (cellsFrom (s3.heap.objs.size + 1) scope.names (cloFrom X.env.cells scope.names [])) fp
  show codeAny _ _ (.compStart (.ListComp elt [⟨tg, iter, ifs, 0⟩] scope pos) 0 (.ref it) (.ref D) (compEnvC scope (cellsFrom (s3.heap.objs.size + 1) scope.names (cloFrom X.env.cells scope.names [])) s3.heap.objs.size X.env)) (compPost (model X.prog X.w) X.A X.xe use Qf (.ref D) s3.heap.objs.size) { s3 with heap := pushCells (s3.heap.push { cls := .type "dict", data := .dict #[] }) scope.names }
  have nfp : ∀ b ∈ fp, (upd H2 D (.lst [])) b = none := fun b hb => (f3 b hb).1.1
  generalize hce : compEnvC scope (cellsFrom (s3.heap.objs.size + 1) scope.names (cloFrom X.env.cells scope.names [])) s3.heap.objs.size X.env = ce at I4 hot pg pt pe ⊢
  have cL : ce.locals = s3.heap.objs.size := by subst hce; rfl
  generalize hH3 : upd H2 D (.lst []) = H3 at I3 I4 hot pg pt pe w0 nfp f3
  generalize hs4 : ({ s3 with heap := pushCells (s3.heap.push { cls := .type "dict", data := .dict #[] }) scope.names } : Shared) = s4 at I4 ⊢
  have st4 : tn 0 s4.heap := T.keep _ _ _ st3 fun b _ o e => by rw [← hs4]; exact pushCells_keeps _ _ _ _ (Heap.get?_push_of_some _ e)
  have stat : ∀ {σ' : SSt} {H' : Hp} {s' : Shared}, Inv (X.blk s3 H3 scope ce fp) [] σ' H' s' → (∀ b ∈ fp, H' b = none) → ∀ b ∈ fp, FpOk (X.blk s3 H3 scope ce fp) [] H' b := fun {σ' H' s'} I' hn b hb =>
    ⟨hn b hb, (I'.ok.exf b hb).1, I'.ok.exfs b hb, .inl hb, fun x c e => (I'.ok.exf b hb).2 x c e, fun p hp => absurd (show p ∈ ([] : List (Addr × Obj)) ++ [] from hp) (by simp)⟩
  have loop : codeAny (model X.prog X.w) X.A (.compLoop (.ListComp elt [⟨tg, iter, ifs, 0⟩] scope pos) 0 (.ref it) (.ref D) ce) (compPost (model X.prog X.w) X.A X.xe use Qf (.ref D) s3.heap.objs.size) s4 := by
    refine compLoop_any (fun n s' => ∃ i H', Inv (X.blk s3 H3 scope ce fp) [] (L2.wipe σ (own.map (·.2))) H' s' ∧ tn i s'.heap ∧ (∀ b ∈ fp, H' b = none) ∧ W i n H') ?_ m0 ⟨0, H3, I4, st4, nfp, w0⟩
    rintro n s5 ⟨i, H5, I5, st5, n5, w5⟩
    rcases turn i n H5 w5 with ⟨stop, qq⟩ | ⟨go, Nx, hNx, step⟩
    · have td := T.done (X.blk s3 H3 scope ce fp) rfl rfl rfl hot i [] s5 _ H5 (fun _ _ => False) I5 (stat I5 n5) st5 stop
      refine thnF td fun r s6 ⟨hr, I6⟩ => ?_
      subst hr
      have I7 : Inv X pins σ H5 s6 := I3.call' (ch := fp) I6.os I6.base I6.hok I6.bare fun b hb => ⟨(f3 b hb).1.2.2.2.1, (f3 b hb).1.2.1, (f3 b hb).1.2.2.2.2.1, (f3 b hb).1.2.2.2.2.2⟩
      have nC : H5 s3.heap.objs.size = none := by
        have z : H5 ce.locals = none := I6.free
        rw [cL] at z
        exact z
      obtain ⟨m, hn, _⟩ := I6.loc
      have hn : s6.heap.Ns ce.locals m := hn
      rw [cL] at hn
      exact hRR D s3.heap.objs.size s6 m H5 I7 qq hn (I3.fpOk (Nat.le_refl _) nC)
    · have ti := T.item (X.blk s3 H3 scope ce fp) rfl rfl rfl hot i [] s5 _ H5 (fun _ _ => False) I5 (stat I5 n5) st5 go
      refine thnF ti fun r s6 ⟨u, hr, h6⟩ => ?_
      subst hr
      refine thnF h6 fun _ s7 ⟨x, H7, I7, r7, y7, st7, n7⟩ => ?_
      have I7' := I7.pinned (stat I7 n7) (T.obj _ _ st7)
      refine thnF (pg.run _ s7 _ H7 x u _ I7' r7 (step x H7 y7)) fun _ s8 ⟨σ8, H8, I8, hw8, q8⟩ => ?_
      refine thnF (pt.run _ s8 σ8 H8 _ I8 q8) fun b s9 ⟨H9, I9, q9⟩ => ?_
      have fin : ∀ {s' : Shared} {H' : Hp}, Inv (X.blk s3 H3 scope ce fp) ([] ++ pinsAt fp s7.heap) σ8 H' s' → Nx H' → ∃ m, m < n ∧ ∃ i H', Inv (X.blk s3 H3 scope ce fp) [] (L2.wipe σ (own.map (·.2))) H' s' ∧ tn i s'.heap ∧ (∀ b ∈ fp, H' b = none) ∧ W i m H' := fun {s' H'} I' nx => by
        obtain ⟨m', hm, w'⟩ := hNx H' nx
        have pin' : ∀ b ∈ fp, ∀ o, s7.heap.get? b = some o → s'.heap.get? b = some o ∧ H' b = none := fun b hb o e =>
          let z := I'.pin (b, o) (List.mem_append_right _ (List.mem_append_right _ (mem_pinsAt hb e)))
          ⟨z.1, z.2.1⟩
        have hl : (L2.wipe σ (own.map (·.2))).length = σ8.length := by rw [← hw8, wipe_length]
        refine ⟨m', hm, i + 1, H', (I'.unpinned (pins := [])).weak hl (fun j v e => ?_), T.keep _ _ _ st7 fun b hb o e => (pin' b hb o e).1, fun b hb => ?_, w'⟩
        · rw [← hw8] at e
          exact (wipe_some e).1
        · obtain ⟨o, e, _⟩ := T.obj _ _ st7 b hb
          exact (pin' b hb o e).2
      cases b with
      | false =>
        simp only [Bool.false_eq_true, if_false] at q9 ⊢
        exact fin I9 q9
      | true =>
        simp only [if_true] at q9 ⊢
        refine thnF (pe.run _ s9 σ8 H9 _ I9 q9) fun z s10 ⟨yv, H10, I10, r10, acc, hD10, hz10, nx⟩ => ?_
        exact app_ok (X := X.blk s3 H3 scope ce fp) I10 hD10 hz10 r10 fun s11 I11 => fin I11 nx
  exact codeAny_compStart_list loop (T.self X.A 0 _ _ _ st4 loop)
theorem pe_lcV {c : Nat} {a : Addr} {elt tg iter : Expr} {ifs : List Expr} {scope : Scope} {own : List (Str × Nat)} {pos : Pos} {wi : TI} {g : TG} {tt : TT} {te : TE} (hx : Has X ca c a) (hN : X.N.Nodup) (hi : PIV X tg iter wi) (ok : BlkOk X.N X.env.scope scope own)
    (hg : ∀ (s : Shared) (H : Hp) (C : Addr) (cl : List (Str × Addr)) (fp : List Addr), HotI (X.blk s H scope (compEnvC scope cl C X.env) fp) → PG (X.blk s H scope (compEnvC scope cl C X.env) fp) tg g) (ht : ∀ (s : Shared) (H : Hp) (C : Addr) (cl : List (Str × Addr)) (fp : List Addr), PTs (X.blk s H scope (compEnvC scope cl C X.env) fp) ifs tt)
    (he : ∀ (s : Shared) (H : Hp) (C : Addr) (cl : List (Str × Addr)) (fp : List Addr), PE (X.blk s H scope (compEnvC scope cl C X.env) fp) elt te) (hs : ∀ x, foldedSetIterable iter X.env x = pure x := by intro _; rfl) :
    PE X (.ListComp elt [⟨tg, iter, ifs, 0⟩] scope pos) (tLc wi g tt te (own.map (·.2))) := by
  refine ⟨fun pins s σ H Q I h => ?_⟩
  rw [eval_ListComp]
  refine lcV_core hx hN I hi ok hg ht he hs h fun D C s' m H' I' q hn f => ⟨m, hn, fun h'' sb => ?_⟩
  obtain ⟨f0, f1, f2, f3, f4, f5⟩ := f
  exact ⟨.ref D, H', I'.turned (t' := s'.toks) (fun b o hb e => (sb.2 b hb).trans e) f0 f1 f3 f4 f5, rfl, q⟩
theorem ps_setLcV {c : Nat} {a : Addr} {i : Nat} {y : Str} {py : Pos} {elt tg iter : Expr} {ifs : List Expr} {scope : Scope} {own : List (Str × Nat)} {pos spos : Pos} {wi : TI} {g : TG} {tt : TT} {te : TE} (hx : Has X ca c a) (hN : X.N.Nodup) (hy : X.N[i]? = some y) (hyl : X.env.scope.names.lookup y = some .local)
    (hsw : swapsWith (.ListComp elt [⟨tg, iter, ifs, 0⟩] scope pos) (some (.Name y py)) spos.line X.env = pure true) (hi : PIV X tg iter wi) (ok : BlkOk X.N X.env.scope scope own)
    (hg : ∀ (s : Shared) (H : Hp) (C : Addr) (cl : List (Str × Addr)) (fp : List Addr), HotI (X.blk s H scope (compEnvC scope cl C X.env) fp) → PG (X.blk s H scope (compEnvC scope cl C X.env) fp) tg g) (ht : ∀ (s : Shared) (H : Hp) (C : Addr) (cl : List (Str × Addr)) (fp : List Addr), PTs (X.blk s H scope (compEnvC scope cl C X.env) fp) ifs tt)
    (he : ∀ (s : Shared) (H : Hp) (C : Addr) (cl : List (Str × Addr)) (fp : List Addr), PE (X.blk s H scope (compEnvC scope cl C X.env) fp) elt te) (hs : ∀ x, foldedSetIterable iter X.env x = pure x := by intro _; rfl) :
    PS X (.Assign [.Name y py] (.ListComp elt [⟨tg, iter, ifs, 0⟩] scope pos) spos) (tAsg (tLc wi g tt te (own.map (·.2))) (gName i)) := by
  refine ⟨fun pins s σ H D I h => ?_⟩
  rw [exec_Assign_Name_used _ _ _ _ hsw]
  refine wpAny_bind (wpAny_standAt (wpAny_bind ?_))
  show wpAny _ X.A (do let _ ← comprehension (.ListComp elt [⟨tg, iter, ifs, 0⟩] scope pos) scope X.env (firstIterPos [⟨tg, iter, ifs, 0⟩] pos) (newList []) false (eval iter X.env) (some (assign (.Name y py) X.env))) _ _ s
  have h : tLc wi g tt te (own.map (·.2)) σ H (fun x H1 => gName i x σ H1 D.nx) := h
  refine wpAny_bind (thn (lcV_core (Qf := fun _ s' => SP X pins D .next s') hx hN I hi ok hg ht he hs h fun L C s' m H' I' q hn f => ?_) fun _ s' hq => wpAny_pure (wpAny_pure hq))
  show wpAny _ _ (assign (.Name y py) X.env (.ref L)) _ _ _
  refine wpAny_assign_Name (store_ok2 (v := V.ref L) I' hN hy (.inl hyl) rfl (fun s2 I2 ⟨a, sb, ha⟩ => ?_) (.inr hyl))
  obtain ⟨f0, f1, f2, f3, f4, f5⟩ := f
  have haC : C ≠ a := by
    rcases ha with z | z
    · rw [z]; exact f1
    · exact fun e => f4 y a z e.symm
  refine ⟨m, hn.sameBut sb haC, fun h3 sb3 => ?_⟩
  exact ⟨_, H', I2.turned (t' := s2.toks) (fun b o hb e => (sb3.2 b hb).trans e) f0 f1 f3 f4 f5, q⟩
/-- [elt for target in a list if ..], an error at hand -/
theorem s_lcV {c : Nat} {a : Addr} {elt tg iter : Expr} {ifs : List Expr} {scope : Scope} {own : List (Str × Nat)} {mi : M (List W × Src)} {gg : TG} {g : MG} {mc : M Bool} {me : M T} (hx : Has X ca c a) (hN : X.N.Nodup) (hi : PIV X tg iter (tI X.K ca Wx mi)) (ok : BlkOk X.N X.env.scope scope own)
    (hg : ∀ (s : Shared) (H : Hp) (C : Addr) (cl : List (Str × Addr)) (fp : List Addr), HotI (X.blk s H scope (compEnvC scope cl C X.env) fp) → PG (X.blk s H scope (compEnvC scope cl C X.env) fp) tg gg) (hT : Tgt X.K ca gg g) (hO : Own (own.map (·.2)) gg)
    (ht : ∀ (s : Shared) (H : Hp) (C : Addr) (cl : List (Str × Addr)) (fp : List Addr), PTs (X.blk s H scope (compEnvC scope cl C X.env) fp) ifs (tT X.K ca wF mc))
    (he : ∀ (s : Shared) (H : Hp) (C : Addr) (cl : List (Str × Addr)) (fp : List Addr), PE (X.blk s H scope (compEnvC scope cl C X.env) fp) elt (tE X.K ca wF me)) (hs : ∀ x, foldedSetIterable iter X.env x = pure x := by intro _; rfl) :
    PE X (.ListComp elt [⟨tg, iter, ifs, 0⟩] scope pos) (tE X.K ca Wx (mComp mi g mc me (own.map (·.2)))) :=
  PE.weak (pe_lcV hx hN hi ok hg ht he hs) fun σ H Q h => comp_of (fun _ _ _ h => h) hT (fun _ _ _ h => h) (fun _ _ _ h => h) (fun v σ H Q q => by
    have q' := hO v _ H Q q
    rwa [wipe_wipe fun v hv => hv] at q') h
theorem s_setLcV {c : Nat} {a : Addr} {i : Nat} {y : Str} {py : Pos} {elt tg iter : Expr} {ifs : List Expr} {scope : Scope} {own : List (Str × Nat)} {spos : Pos} {mi : M (List W × Src)} {gg : TG} {g : MG} {mc : M Bool} {me : M T} (hx : Has X ca c a) (hN : X.N.Nodup) (hy : X.N[i]? = some y) (hyl : X.env.scope.names.lookup y = some .local)
    (hsw : swapsWith (.ListComp elt [⟨tg, iter, ifs, 0⟩] scope pos) (some (.Name y py)) spos.line X.env = pure true) (hi : PIV X tg iter (tI X.K ca Wx mi)) (ok : BlkOk X.N X.env.scope scope own)
    (hg : ∀ (s : Shared) (H : Hp) (C : Addr) (cl : List (Str × Addr)) (fp : List Addr), HotI (X.blk s H scope (compEnvC scope cl C X.env) fp) → PG (X.blk s H scope (compEnvC scope cl C X.env) fp) tg gg) (hT : Tgt X.K ca gg g) (hO : Own (own.map (·.2)) gg)
    (ht : ∀ (s : Shared) (H : Hp) (C : Addr) (cl : List (Str × Addr)) (fp : List Addr), PTs (X.blk s H scope (compEnvC scope cl C X.env) fp) ifs (tT X.K ca wF mc))
    (he : ∀ (s : Shared) (H : Hp) (C : Addr) (cl : List (Str × Addr)) (fp : List Addr), PE (X.blk s H scope (compEnvC scope cl C X.env) fp) elt (tE X.K ca wF me)) (hs : ∀ x, foldedSetIterable iter X.env x = pure x := by intro _; rfl) :
    PS X (.Assign [.Name y py] (.ListComp elt [⟨tg, iter, ifs, 0⟩] scope pos) spos) (tS X.K ca Wx (sSet i (mComp mi g mc me (own.map (·.2))))) :=
  PS.weak (ps_setLcV hx hN hy hyl hsw hi ok hg ht he hs) fun D σ H h => by
    have h' := set_of (X := X) h
    exact comp_of (fun _ _ _ h => h) hT (fun _ _ _ h => h) (fun _ _ _ h => h) (fun v σ H Q q => by
      have q' := hO v _ H Q q
      rwa [wipe_wipe fun v hv => hv] at q') h'
end
end Sy
set_option Elab.async false
set_option linter.all false
set_option maxRecDepth 100000
set_option maxHeartbeats 4000000
namespace Sy
open PySem PySem.Spec PyProof.Rows L2
/-! defs that are called where nothing is being shown: str(data) there -/
structure FnG (P : Program) (w : World) (K : PySem.W.Frag) (mg : Str → Option Value) (base : Heap) (k : Nat) (f : Addr) (fd : FuncData) (ps : List Str) (sp : Sp) : Prop where
  ln : ∀ vs H Q E, sp vs H Q E → vs.length = ps.length
  go : ∀ (A : Around) (out : List Env) (s : Shared) (H : Hp) (us : List Value) (vs : List V) (Q : VK) (E : XK), Room k A → A.guards = some [] →
    Env0 P w K mg base A out s H → BindsTo s fd ⟨us, []⟩ (ps.zip us) → Vals vs us → sp vs H Q E → codeAny (model P w) A (.call (.ref f) ⟨us, []⟩) (CR (L2N.CX P w) out P w H s Q E) s
section
variable {P : Program} {w : World} {K : PySem.W.Frag} {mg : Str → Option Value} {base : Heap} {ca : Nat → Addr}
theorem fnG_of {x qual : Str} {params : Arguments} {body : List Stmt} {scope : Scope} {f : Addr} {fd : FuncData} {N ps : List Str} {k : Nat} {sp : Sp} (F : FunD K x qual params body scope [] [] f fd) (S : FnScope N ps scope)
    (ln : ∀ vs H Q E, sp vs H Q E → vs.length = ps.length)
    (hb : ∀ (cdv : Value) (A : Around) (out : List Env) (s : Shared) (H : Hp) (vs : List V) (Q : VK) (E : XK), Room k (A.deeper (envOfC qual scope s.heap.objs.size f cdv)) → A.guards = some [] → sp vs H Q E →
      ∃ t, PSs (cxOf (L2N.CX P w) P w K mg base N qual scope f cdv A out s H E) body t ∧ t { nx := fun _ H2 => Q .non H2, rt := Q } (L2.start N vs) H) :
    FnG P w K mg base (k + 1) f fd ps sp := by
  obtain ⟨oc, od, dV, kV, doc, pm, an, cdv, ct, osl, rfl, lk, cd, _, _⟩ := F.ex
  refine ⟨ln, fun A out s H us vs Q E rm gd env bd rel sat => ?_⟩
  have hlen := ln _ _ _ _ sat
  have stay : ∀ b o, base.get? b = some o → s.heap.get? b = some o := fun b o z => (env.bs b o z).1
  have inK : K.In s.heap := env.mod.kin.keeps stay
  have nolim : s.heap.NoLimit := env.mod.nolimit.keeps stay
  have kinds : ∀ y ∈ ps.zip us, scope.names.lookup y.1 = some .local ∨ (scope.names.lookup y.1 = some .cell ∧ ((cellsFrom (s.heap.objs.size + 1) scope.names []).lookup y.1).isSome = true) := by
    rintro ⟨n, u⟩ hy
    rcases S.par n (List.of_mem_zip hy).1 with z | z
    · exact .inl z
    · exact .inr ⟨z, PySem.W.cellsFrom_some _ _ _ (.inl z)⟩
  refine codeAny_call_function rm.depth (inK _ _ lk) rfl S.co S.gen rfl (PySem.W.codeRec_of inK cd) (bd _ _ _ _ ?_)
  refine wpAny_newFunctionEnv_cells S.kind kinds fun env2 he s1 ic => ?_
  subst he
  refine ⟨nolim.keeps ic.toInCall.keep, codeAny_func ?_⟩
  obtain ⟨t, ht, hq⟩ := hb cdv A out s H vs Q E (rm.deeper _) gd sat
  have inv : Inv (cxOf (L2N.CX P w) P w K mg base N qual scope f cdv A out s H E) [] (L2.start N vs) H s1 := inv_start S rm.hd env hlen rel ic
  refine wpAny_mono (ht.run [] s1 (L2.start N vs) H _ inv hq) (fun fl s2 z => ?_) fun _ _ z => z
  have done : ∀ {σ2 : SSt} {H2 : Hp} {v : V} {u : Value}, Inv (cxOf (L2N.CX P w) P w K mg base N qual scope f cdv A out s H E) [] σ2 H2 s2 → RelV v u → Q v H2 → CE out P w H s Q u s2 := by
    intro σ2 H2 v u J rv q
    exact ⟨v, H2, J.os, J.bare, J.base, J.hok, rv, q⟩
  cases fl with
  | next => obtain ⟨σ2, H2, J, q⟩ := z; exact done (v := V.non) (u := Value.none) J rfl q
  | ret u => obtain ⟨v, σ2, H2, J, rv, q⟩ := z; exact done J rv q
  | cont => obtain ⟨_, _, _, q⟩ := z; exact q.elim
  | brk => obtain ⟨_, _, _, q⟩ := z; exact q.elim
theorem def_okG {x qual : Str} {params : Arguments} {body : List Stmt} {scope : Scope} {f : Addr} {fd : FuncData} {N ps : List Str} {k : Nat} {mb : MS} (F : FunD K x qual params body scope [] [] f fd) (S : FnScope N ps scope)
    (hb : ∀ (cdv : Value) (A : Around) (out : List Env) (s : Shared) (H : Hp) (E : XK), Room k (A.deeper (envOfC qual scope s.heap.objs.size f cdv)) → (A.deeper (envOfC qual scope s.heap.objs.size f cdv)).guards = some [] →
      PSs (cxOf (L2N.CX P w) P w K mg base N qual scope f cdv A out s H E) body (tS K ca (fun c d _ H => E c d H) mb)) :
    FnG P w K mg base (k + 1) f fd ps (spM K ca ps.length (mDef N.length mb)) := by
  refine fnG_of F S (fun vs H Q E h => h.1) fun cdv A out s H vs Q E hr hg h => ?_
  obtain ⟨hl, ρ, G, ws, r, q, h⟩ := h
  refine ⟨_, hb cdv A out s H E hr hg, ρ, G, _, r, relS_start q, ?_⟩
  unfold mDef at h
  cases e : mb (ws.map some ++ List.replicate (N.length - ws.length) none) G with
  | nx τ G' => rw [e] at h; exact fun ρ' H' σ' x r' s' => h ρ' H' x r' .non .non
  | rt w G' => rw [e] at h; exact fun ρ' H' v x r' q' => h ρ' H' x r' v q'
  | ex c fs τ G' => rw [e] at h; exact fun ρ' H' d σ' x r' s' ef => h ρ' H' d x r' ef
  | bk τ G' => rw [e] at h; exact h.elim
  | ct τ G' => rw [e] at h; exact h.elim
  | bad => rw [e] at h; exact h.elim
structure CallG (P : Program) (w : World) (K : PySem.W.Frag) (mg : Str → Option Value) (base : Heap) (ca : Nat → Addr) (k : Nat) (x : Str) (ps : List Str) (dws : List W) (m : List W → GH → R W) : Prop where
  ex : dws = [] ∧ ∃ (f : Addr) (fd : FuncData), mg x = some (.ref f) ∧ PySem.W.keepIn K (.ref f) = true ∧ Binds K fd ps [] ∧ FnG P w K mg base k f fd ps (spM K ca ps.length m)
theorem callG_mk {k : Nat} {x : Str} {ps : List Str} {m : List W → GH → R W} {f : Addr} {fd : FuncData} (hm : mg x = some (.ref f)) (kp : PySem.W.keepIn K (.ref f) = true) (b : Binds K fd ps []) (F : FnG P w K mg base k f fd ps (spM K ca ps.length m)) :
    CallG P w K mg base ca k x ps [] m := ⟨rfl, f, fd, hm, kp, b, F⟩
end
section
variable {X : Cx} {ca : Nat → Addr} {Wx : WX} {pos : Pos}
theorem run_G {pins : List (Addr × Obj)} {σ : SSt} {H : Hp} {s : Shared} {Q : VK} {us : List Value} {vs : List V} {k : Nat} {f : Addr} {fd : FuncData} {ps : List Str} {sp : Sp} (tk : L2N.Takes X Wx)
    (F : FnG X.prog X.w X.K X.mg X.base k f fd ps sp) (hr : Room k X.A) (hg : X.A.guards = some []) (hb : Binds X.K fd ps []) (inv : Inv X pins σ H s) (rel : Vals vs us) (h : sp vs H Q (WE Wx σ)) :
    wpAny (model X.prog X.w) X.A (call (.ref f) us) (EP X pins σ Q) X.xe s := by
  have hlu : us.length = ps.length := rel.length.symm.trans (F.ln _ _ _ _ h)
  have bd := hb s us inv.kIn (by rw [List.append_nil]; exact hlu)
  rw [List.append_nil] at bd
  refine wpAny_call (codeAny_mono (F.go X.A X.stack s H us vs Q (WE Wx σ) hr hg inv.env0 bd rel h) fun res s2 z => ?_)
  cases res with
  | error e => exact L2N.passAt tk σ pins H s e s2 inv z
  | ok fl =>
    cases fl with
    | ret u => exact inv.after z
    | next => exact z.elim
    | brk => exact z.elim
    | cont => exact z.elim
theorem s_callG {x : Str} {p : Pos} {k : Nat} {ps : List Str} {m : List W → GH → R W} {e : Expr} {es : List Expr} {ma : M (List W)} (C : CallG X.prog X.w X.K X.mg X.base ca k x ps [] m) (hr : Room k X.A) (hG : X.A.guards = some []) (hg : Gl X x) (tk : L2N.Takes X Wx)
    (ha : PA X (e :: es) (tA X.K ca Wx ma)) (hn : ∀ ws τ G G1, ma τ G = .ok ws G1 → (ws ++ []).length = ps.length) (hdb : (x == ("__debug__" : Str)) = false := by decide)
    (he : starEach (e :: es) X.env = (false, eval e X.env) :: starEach es X.env := by rfl) (hpl : (backTo pos (starEach es X.env)).any (·.1) = false := by rfl) :
    PE X (.Call (.Name x p) (e :: es) [] pos) (tE X.K ca Wx (mCall m [] ma)) := by
  obtain ⟨_, f, fd, gm, kp, b, F⟩ := C.ex
  refine ⟨fun pins s σ H Q inv h => ?_⟩
  have h2 := call_in (X := X) (Wx := Wx) (dvs := []) (dws := []) (n := ps.length) (m := m) (fun _ _ => .nil) hn h
  refine wpAny_Call_Name_kw (ld_glob inv hg gm ?_ hdb)
  refine PySem.W.callWith_K (h₀ := X.base) inv.ok.mod.kin kp (thn (ha.run pos pins s σ H _ inv h2) fun us s1 z => ?_) he hpl
  obtain ⟨vs, H1, inv1, rel, q⟩ := z
  rw [List.append_nil] at q
  exact ⟨inv1.kIn, run_G tk F hr hG b inv1 rel q⟩
/-! str of a number, a text, None, data, an empty dict -/
def rStrG (K : PySem.W.Frag) : List V → Hp → VK → Prop := fun xs H Q =>
  (∃ i, xs = [.int i] ∧ i.natAbs.log2 < 1920 ∧ Q (.str (toString i)) H) ∨ (∃ x, xs = [.str x] ∧ Q (.str x) H) ∨ (xs = [.non] ∧ Q (.str "None") H) ∨
  (∃ a d, xs = [.ref a] ∧ Dp K H (.ref a) d ∧ SeqAt.shaped d = true ∧ d.showable = true ∧ d.shown.length ≤ 16777216 ∧ Q (.str d.shown) H) ∨
  (∃ a, xs = [.ref a] ∧ Rd H a (.dK []) ∧ Q (.str "{}") H)
theorem call_strG (hg : X.A.guards = some []) (hu : X.A.units + 100 < cLine) : CallR X (.type "str") (rStrG X.K) := by
  intro pins s σ H xs us Q I r h
  rcases h with ⟨i, rfl, hz, q⟩ | ⟨x, rfl, q⟩ | ⟨rfl, q⟩ | ⟨a, d, rfl, hd, hs, hw, hl, q⟩ | ⟨a, rfl, hd, q⟩
  · obtain ⟨u, rfl, t, rfl⟩ := vals1 r
    exact PySem.P.str_of_int hz ⟨.str _, H, I.tok _, ⟨_, rfl⟩, q⟩
  · obtain ⟨u, rfl, t, rfl⟩ := vals1 r
    exact PySem.P.str_of_str ⟨.str x, H, I, ⟨t, rfl⟩, q⟩
  · obtain ⟨u, rfl, r1⟩ := vals1 r
    cases r1
    exact PySem.P.str_of_none ⟨.str _, H, I.tok _, ⟨_, rfl⟩, q⟩
  · obtain ⟨u, rfl, r1⟩ := vals1 r
    obtain ⟨as, rd⟩ := Dp.reads I d _ u hd r1
    obtain rfl : u = Value.ref a := r1
    have hs' : d.canLay0 = true ∧ d.depth ≤ 64 := by
      unfold SeqAt.shaped at hs
      rw [Bool.and_eq_true] at hs
      exact ⟨hs.1, of_decide_eq_true hs.2⟩
    refine PySem.str_of_reads rd hw (PyData.noDict_hsm (PyData.hasDict_of_canLay d hs'.1)) hg (by have := hs'.2; omega) (fun _ _ e => e) (fun h' u tk hk => ?_) (by rw [sizeLine_eq]; exact hl)
    exact ⟨.str d.shown, H, I.kept (t' := tk) hk, ⟨u, rfl⟩, q⟩
  · obtain ⟨u, rfl, r1⟩ := vals1 r
    obtain rfl : u = Value.ref a := r1
    obtain ⟨_, hsm, vs, hv, o, es, ep, e1, e2, e3, e4, e5, e6⟩ := hd.ok I.hok
    cases hv
    have hes : es.toList = [] := by
      generalize es.toList = l at e5
      cases e5
      rfl
    have rd : Reads s.heap (.ref a) (.dict []) (a :: [] ++ []) := Reads.dict e1 e2.1 e3 (by rw [hes]; exact .nil) (by rw [hes]; exact .nil)
    refine PySem.str_of_reads rd rfl (fun _ hm => ?_) hg (by show X.A.units + (1 + 3) < cLine; omega) (fun _ _ e => e) (fun h' u tk hk => ?_) (by rw [sizeLine_eq]; decide)
    · rcases List.mem_cons.mp hm with z | z
      · rw [← z] at hsm
        exact absurd hsm (by decide)
      · cases z
    · exact ⟨.str "{}", H, I.kept (t' := tk) hk, ⟨u, rfl⟩, q⟩
def fStrD (t : T) (G : GH) : R T := match toDT G t with
  | some d => if d.showable && decide (d.shown.length ≤ 16777216) then .ok (.val (.str d.shown)) G else .bad
  | none => match t with
    | .val (.loc n) => match G[n]? with
      | some (.dK []) => .ok (.val (.str "{}")) G
      | _ => .bad
    | _ => .bad
def fStrG (ts : List T) (G : GH) : R T := match ts with
  | [t] => match t with
    | .tmp ws => fStrD (.tmp ws) G
    | .val w => match w with
      | .int i => if i.natAbs.log2 < 1920 then .ok (.val (.str (toString i))) G else .bad
      | .str x => .ok (.val (.str x)) G
      | .non => .ok (.val (.str "None")) G
      | .loc n => fStrD (.val (.loc n)) G
      | .tup ws => fStrD (.val (.tup ws)) G
      | .frl ws => fStrD (.val (.frl ws)) G
      | _ => .bad
  | _ => .bad
theorem says_strD {σ : SSt} {ρ : List Addr} {G : GH} {H H0 : Hp} {v : V} {t : T} {Q : VK} (hv : ∀ a, toDT G t = some a → ∃ p, v = .ref p) (r : Rep X.K ca ρ G H) (q : RelT X.K ca H0 ρ H v t)
    (h : Post X.K ca Wx σ ρ H (fun t _ ρ' H' => ∀ v, RelT X.K ca H ρ' H' v t → Q v H') (fStrD t G)) : rStrG X.K [v] H Q := by
  unfold fStrD at h
  cases e : toDT G t with
  | some d =>
    rw [e] at h
    dsimp only at h
    cases c : d.showable && decide (d.shown.length ≤ 16777216) with
    | false => rw [c] at h; exact h.elim
    | true =>
      rw [c, if_pos rfl] at h
      rw [Bool.and_eq_true] at c
      obtain ⟨a, rfl⟩ := hv d e
      obtain ⟨h1, h2⟩ := toDT_dp r q e
      exact .inr (.inr (.inr (.inl ⟨a, d, rfl, h1, h2, c.1, of_decide_eq_true c.2, h ρ H .refl r _ (.str _)⟩)))
  | none =>
    rw [e] at h
    dsimp only at h
    split at h
    · rename_i n
      split at h
      · rename_i e2
        cases q with
        | loc hn =>
          obtain ⟨o, e3, ho⟩ := r.at hn
          rw [e2] at e3
          cases e3
          obtain ⟨kvs, e4, e5⟩ := ho
          cases e5
          exact .inr (.inr (.inr (.inr ⟨_, rfl, .of e4, h ρ H .refl r _ (.str _)⟩)))
      · exact h.elim
    · exact h.elim
theorem says_strG : SaysC X ca (rStrG X.K) fStrG := by
  intro Wx σ ρ G H H0 xs ts Q r q h
  unfold fStrG at h
  split at h
  · obtain ⟨v, rfl, qv⟩ := relTs_one q
    split at h
    · obtain ⟨p, vs, e, _⟩ := id qv
      exact says_strD (fun _ _ => ⟨p, e⟩) r qv h
    · split at h
      · cases qv
        split at h
        · rename_i z
          exact .inl ⟨_, rfl, z, h ρ H .refl r _ (.str _)⟩
        · exact h.elim
      · cases qv
        exact .inr (.inl ⟨_, rfl, h ρ H .refl r _ (.str _)⟩)
      · cases qv
        exact .inr (.inr (.inl ⟨rfl, h ρ H .refl r _ (.str _)⟩))
      · exact says_strD (fun _ _ => by cases qv; exact ⟨_, rfl⟩) r qv h
      · obtain ⟨a, vs, e, _⟩ := relW_tup qv
        exact says_strD (fun _ _ => ⟨a, e⟩) r qv h
      · obtain ⟨a, vs, e, _⟩ := relW_frl qv
        exact says_strD (fun _ _ => ⟨a, e⟩) r qv h
      · exact h.elim
  · exact h.elim
theorem hu_hund {k : Nat} {A : Around} (hr : Room k A) : A.units + 100 < cLine := by have := hr.un; omega
end
end Sy
set_option Elab.async false
set_option linter.all false
set_option maxRecDepth 100000
set_option maxHeartbeats 4000000
namespace Sy
open PySem PySem.Spec PyProof.Rows L2
section
variable {X : Cx} {ca : Nat → Addr} {Wx : WX} {pos : Pos} {tg : Expr}
/-! reversed(range(n)) -/
def iterRV (t : T) (G : GH) : R (List W × Src) := match t with
  | .val (.int j) => if in62 j then .ok (rangeWC (((j.toNat : Nat) : Int) - 1) (-1) j.toNat, []) G else .bad
  | _ => .bad
def miRV (m : M T) : M (List W × Src) := fun τ G => (m τ G).bind iterRV
theorem miRV_at (m : M T) (τ : Sl) (G : GH) : miRV m τ G = (m τ G).bind iterRV := (rfl)
theorem i_revR1 {a : Expr} {m : M T} {p p2 pos2 : Pos} (hg : Gl X "reversed") (hm : X.mg "reversed" = none) (hg2 : Gl X "range") (hm2 : X.mg "range" = none) (ha : PE X a (tE X.K ca Wx m)) (na : starEach [a] X.env = (false, eval a X.env) :: starEach [] X.env := by rfl)
    (hs : starEach [Expr.Call (.Name "range" p2) [a] [] pos2] X.env = (false, eval (.Call (.Name "range" p2) [a] [] pos2) X.env) :: starEach [] X.env := by rfl) :
    PI X tg (.Call (.Name "reversed" p) [.Call (.Name "range" p2) [a] [] pos2] [] pos) (tI X.K ca Wx (miRV m)) := by
  refine PI.weak (pi_revR hg hm (prg_1 hg2 hm2 ha na) hs) fun σ H R ⟨ρ, G, τ, r, sl, h⟩ => ?_
  refine tE.seq r sl h fun t G1 ρ1 H1 v x1 r1 s1 q1 h1 => ?_
  unfold iterRV at h1
  split at h1
  · split at h1
    · rename_i j z
      cases q1
      unfold in62 at z
      rw [Bool.and_eq_true] at z
      have z1 := of_decide_eq_true z.1
      have z2 := of_decide_eq_true z.2
      refine ⟨j, rfl, by decide, by decide, z1, z2, ?_⟩
      have e : (0 : Int) + (((j - 0).toNat : Nat) : Int) - 1 = ((j.toNat : Nat) : Int) - 1 := by rw [Int.zero_add, Int.sub_zero]
      rw [e, Int.sub_zero]
      exact h1 ρ1 H1 .refl r1 _ itrc_ok
    · exact h1.elim
  · exact h1.elim
end
end Sy
set_option Elab.async false
set_option linter.all false
set_option maxRecDepth 100000
set_option maxHeartbeats 4000000
namespace Sy
open PySem PySem.Spec PyProof.Rows L2
/-! thunks: lambdas handed to a def that calls them -/
/-- such a lambda's names: captured ones, globals, parameters; M: the maker's slots N as the lambda sees them -/
structure LamN (N M : List Str) (sc scope : Scope) : Prop where
  kind : scope.kind = .function
  co : scope.isCoroutine = false
  gen : scope.isGenerator = false
  noCell : ∀ z ∈ scope.names, z.2 ≠ NameKind.cell
  len : M.length = N.length
  seen : ∀ (i : Nat) (y : Str), M[i]? = some y → Vis scope y → N[i]? = some y ∧ scope.names.lookup y ≠ some NameKind.local
  free : ∀ z ∈ scope.names, z.2 = NameKind.free → sc.names.lookup z.1 = some .cell ∨ sc.names.lookup z.1 = some .free
def seenB (scope : Scope) : List Str → List Str → Bool
  | [], [] => true
  | a :: N, b :: M => (match scope.names.lookup b with
    | some .local => false
    | some .cell => false
    | some .free => decide (a = b)
    | _ => true) && seenB scope N M
  | _, _ => false
theorem seenB_ok {scope : Scope} : ∀ {N M : List Str}, seenB scope N M = true → M.length = N.length ∧ ∀ (i : Nat) (y : Str), M[i]? = some y → Vis scope y → N[i]? = some y ∧ scope.names.lookup y ≠ some NameKind.local
  | [], [], _ => ⟨rfl, fun i y h => by simp at h⟩
  | [], _ :: _, h => by cases h
  | _ :: _, [], h => by cases h
  | a :: N, b :: M, h => by
    unfold seenB at h
    rw [Bool.and_eq_true] at h
    obtain ⟨l, f⟩ := seenB_ok h.2
    refine ⟨by simp [l], fun i y hy hv => ?_⟩
    cases i with
    | succ i => simpa using f i y (by simpa using hy) hv
    | zero =>
      have e : b = y := by simpa using hy
      subst e
      have h1 := h.1
      rcases hv with k | k | k
      · rw [k] at h1; cases h1
      · rw [k] at h1; cases h1
      · rw [k] at h1
        have e2 : a = b := of_decide_eq_true h1
        subst e2
        exact ⟨rfl, by rw [k]; intro z; cases z⟩
def lamNB (N M : List Str) (sc scope : Scope) : Bool :=
  decide (scope.kind = .function) && (!scope.isCoroutine && (!scope.isGenerator && (scope.names.all (fun z => !decide (z.2 = NameKind.cell)) &&
    (seenB scope N M && scope.names.all (fun z => !decide (z.2 = NameKind.free) || (decide (sc.names.lookup z.1 = some .cell) || decide (sc.names.lookup z.1 = some .free)))))))
theorem lamN_by {N M : List Str} {sc scope : Scope} (h : lamNB N M sc scope = true) : LamN N M sc scope := by
  unfold lamNB at h
  simp only [Bool.and_eq_true, Bool.or_eq_true, Bool.not_eq_true', decide_eq_true_eq, List.all_eq_true, decide_eq_false_iff_not] at h
  obtain ⟨a1, a2, a3, a4, a5, a6⟩ := h
  refine ⟨a1, a2, a3, a4, (seenB_ok a5).1, (seenB_ok a5).2, fun z hz e => ?_⟩
  rcases a6 z hz with k | k
  · exact absurd e k
  · exact k
theorem LamN.caps {X : Cx} {N M : List Str} {scope : Scope} (L : LamN N M X.env.scope scope) (ok : X.Ok) : ∀ z ∈ scope.names, z.2 = NameKind.free → ∃ c, X.env.cells.lookup z.1 = some c := by
  intro z hz e
  rcases L.free z hz e with k | k
  · exact ok.has _ (Or.inl k)
  · exact ok.has _ (Or.inr k)
/-- what a made function's defaults are -/
def DfltAt (h : Heap) (H : Hp) (fr : List Addr) (dV : Value) (dv : List Value) : Prop :=
  (dV = .none ∧ dv = []) ∨ ∃ t : Addr, dV = .ref t ∧ dv ≠ [] ∧ h.get? t = some (PySem.W.kdv_tup dv) ∧ H t = none ∧ t ∉ fr
section
variable {X : Cx} {pins : List (Addr × Obj)} {σ : SSt} {H HZ : Hp} {s s1 : Shared}
theorem frs_lt {b : Addr} (I : Inv X pins σ H s) (hb : s.heap.objs.size ≤ b) : b ∉ frs X.stack := by
  intro z
  rcases List.mem_cons.mp (I.stkSub _ z) with e | e
  · have hl := I.lt
    rw [← e] at hl
    exact Nat.lt_irrefl _ (Nat.lt_of_lt_of_le hl hb)
  · exact I.nofs hb e
/-- the lambda's object is made -/
theorem lam_tail {c P : Addr} {q : Str} {dV : Value} {dv : List Value} {params : Arguments} {body : Expr} {scope : Scope} {pos : Pos} {Ex Qx : Value → Shared → Prop} (I : Inv X pins σ H s) (TB : LamX.TabB X.base X.mg c P) (hcode : X.env.code = .ref c) (t : LamX.TabS H P q)
    (hcaps : ∀ z ∈ scope.names, z.2 = NameKind.free → ∃ c, X.env.cells.lookup z.1 = some c) (hdv : DfltAt s.heap H (frs X.stack) dV dv)
    (h : ∀ (f c' : Addr) (pm ctv doc : Value) (H1 : Hp) (s1 : Shared), Inv X pins σ H1 s1 → (∀ b o, b ≠ P → H b = some o → H1 b = some o) → LamX.TabS H1 P q →
      s1.heap.get? f = some (PySem.W.kdv_obj "<lambda>" q params (.expr body) scope (cloFrom X.env.cells scope.names []) dV doc pm c' ctv) → DfltAt s1.heap H1 (frs X.stack) dV dv → H1 f = none → f ∉ frs X.stack → H1 c' = some (LamX.CodeO c' q) → Qx (.ref f) s1) :
    wpAny (model X.prog X.w) X.A (makeTail "<lambda>" q params (.expr body) scope X.env dV .none none pos pos.line) Qx Ex s := by
  obtain ⟨ps, tP, trip, names⟩ := t
  have bm : s.heap.BuiltinsAt X.mg P := TB.bm.keeps I.bk
  have oP : s.heap.get? P = some { cls := .none, data := .fields ps } := I.hok P _ tP
  cases among : codeAmong pos ps.toList with
  | some cv =>
    obtain ⟨c', rfl, hco⟩ := names pos cv among
    refine PySem.W.kdv_makeTailHit (mg := X.mg) (c := c) (P := P) (ps := ps) (closure_ok hcaps) I.ok.glob (I.mod.glob.keeps I.bk) hcode (TB.code.keeps I.bk) oP trip among bm ?_
    intro ctv doc h' tk kp hsz
    have I1 : Inv X pins σ H { s with heap := h'.push (PySem.W.kdv_obj "<lambda>" q params (.expr body) scope (cloFrom X.env.cells scope.names []) dV doc ((X.mg "__name__").getD .none) c' ctv), toks := tk } :=
      I.kept (t' := tk) fun b o e => Heap.get?_push_of_some _ (kp b o e)
    refine h h'.objs.size c' _ ctv doc H _ I1 (fun _ _ _ e => e) ⟨ps, tP, trip, names⟩ (Heap.get?_push_size _ rfl) ?_ (I.hok.fresh hsz) (frs_lt I hsz) hco
    rcases hdv with z | ⟨T, z1, z2, z3, z4, z5⟩
    · exact Or.inl z
    · exact Or.inr ⟨T, z1, z2, Heap.get?_push_of_some _ (kp _ _ z3), z4, z5⟩
  | none =>
    refine PySem.W.kdv_makeTail (mg := X.mg) (c := c) (P := P) (ps := ps) (closure_ok hcaps) I.ok.glob (I.mod.glob.keeps I.bk) hcode (TB.code.keeps I.bk) oP trip among TB.gP bm ?_
    intro c' ctv doc h' tk kp hge hlt hrec hnew
    obtain ⟨c2, oc, vs, tt, e2, hoc, hd, hvs⟩ := hrec
    cases e2
    have hsz : s.heap.objs.size ≤ h'.objs.size := Nat.le_of_lt (Nat.lt_of_le_of_lt hge hlt)
    have noC : H c' = none := I.hok.fresh hge
    have noF : H h'.objs.size = none := I.hok.fresh hsz
    have I1 := LamX.inv_table (q := q) (t' := tk) (more := #[rawInt pos.line, rawInt pos.col, .ref c']) (h' := h'.push (PySem.W.kdv_obj "<lambda>" q params (.expr body) scope (cloFrom X.env.cells scope.names []) dV doc ((X.mg "__name__").getD .none) c' ctv)) I tP
      (fun b o hb e => Heap.get?_push_of_some _ (kp b o hb e)) (Heap.get?_push_of_some _ hnew) hge ⟨oc, vs, tt, Heap.get?_push_of_some _ hoc, hd, hvs⟩
    have eL : (ps ++ #[rawInt pos.line, rawInt pos.col, Value.ref c']).toList = ps.toList ++ [rawInt pos.line, rawInt pos.col, Value.ref c'] := by simp
    have stay : ∀ b o, b ≠ P → H b = some o → upd (upd H P (.tbl (ps ++ #[rawInt pos.line, rawInt pos.col, .ref c']))) c' (LamX.CodeO c' q) b = some o := fun b o nb e => by
      rw [upd_ne (ne_of_none e noC), upd_ne nb]
      exact e
    have notTb : ∀ b o, H b = some (LamX.CodeO b o) → b ≠ P := fun b o e z => by
      rw [z, tP] at e
      cases e
    have gone : ∀ b, H b = none → b ≠ P → b ≠ c' → upd (upd H P (.tbl (ps ++ #[rawInt pos.line, rawInt pos.col, .ref c']))) c' (LamX.CodeO c' q) b = none := fun b e n1 n2 => by
      rw [upd_ne n2, upd_ne n1]
      exact e
    have hlP : P < s.heap.objs.size := Heap.lt_size oP
    refine h h'.objs.size c' _ ctv doc _ _ I1 stay ⟨_, by rw [upd_ne (ne_of_none tP noC), upd_same], by rw [eL]; exact PySem.TriplesOk_snoc _ _ _ _ trip, fun pos' cv hcv => ?_⟩ (Heap.get?_push_size _ rfl) ?_ (gone _ noF (Nat.ne_of_gt (Nat.lt_of_lt_of_le hlP hsz)) (Nat.ne_of_gt hlt)) (frs_lt I hsz) upd_same
    · rw [eL] at hcv
      rcases LamX.among_app _ trip hcv with z | z
      · obtain ⟨c0, e1, e2⟩ := names pos' cv z
        exact ⟨c0, e1, stay _ _ (notTb _ _ e2) e2⟩
      · exact ⟨c', z, upd_same⟩
    · rcases hdv with z | ⟨T, z1, z2, z3, z4, z5⟩
      · exact Or.inl z
      · have nTP : T ≠ P := fun z => by
          rw [z, tP] at z4
          cases z4
        exact Or.inr ⟨T, z1, z2, Heap.get?_push_of_some _ (kp _ _ nTP z3), gone _ z4 nTP (Nat.ne_of_lt (Nat.lt_of_lt_of_le (Heap.lt_size z3) hge)), z5⟩
/-- the defaults of a thunk: none, or one whole number -/
def ThkD (params : Arguments) : Prop := params.kw_defaults = [] ∧ (params.defaults = [] ∨ ∃ (i : Int) (j : Nat) (p : Pos), params.defaults = [.Constant (.int i) j p])
theorem lam_made {c P : Addr} {q : Str} {params : Arguments} {body : Expr} {scope : Scope} {pos : Pos} {Qx : Value → Shared → Prop} (I : Inv X pins σ H s) (TB : LamX.TabB X.base X.mg c P) (hcode : X.env.code = .ref c) (t : LamX.TabS H P q) (hq : X.env.qual ++ "<lambda>" = q)
    (hcaps : ∀ z ∈ scope.names, z.2 = NameKind.free → ∃ c, X.env.cells.lookup z.1 = some c) (hd : ThkD params)
    (h : ∀ (f c' : Addr) (dV : Value) (dv : List Value) (pm ctv doc : Value) (H1 : Hp) (s1 : Shared), dv.length = params.defaults.length → Inv X pins σ H1 s1 → (∀ b o, b ≠ P → H b = some o → H1 b = some o) → LamX.TabS H1 P q →
      s1.heap.get? f = some (PySem.W.kdv_obj "<lambda>" q params (.expr body) scope (cloFrom X.env.cells scope.names []) dV doc pm c' ctv) → DfltAt s1.heap H1 (frs X.stack) dV dv → H1 f = none → f ∉ frs X.stack → H1 c' = some (LamX.CodeO c' q) → Qx (.ref f) s1) :
    wpAny (model X.prog X.w) X.A (eval (.Lambda params body scope pos) X.env) Qx X.xe s := by
  subst hq
  obtain ⟨hk, hd⟩ := hd
  rcases hd with hd | ⟨i, j, p, hd⟩
  · refine PySem.W.kla_eval (by rw [defaultsOf_eq, hd, hk]; rfl) ?_
    rw [makeFunction_eq]
    simp only [pure_bind, if_true, List.isEmpty_nil, List.filterMap_nil, List.zip_nil_right]
    exact lam_tail (dv := []) I TB hcode t hcaps (Or.inl ⟨rfl, rfl⟩) fun f c' pm ctv doc H1 s1 => h f c' .none [] pm ctv doc H1 s1 (by rw [hd]; rfl)
  · refine PySem.W.kdv_lam (by rw [hd]; rfl) hk ?_
    rw [hd]
    refine PySem.W.kdv_all1 (thn ((pe_int (X := X) (i := i) (j := j) (pos := p)).run pins s σ H (fun v H1 => v = .int i ∧ H1 = H) I ⟨rfl, rfl⟩) fun u s1 hu => ?_)
    obtain ⟨v, H1, I1, r1, e1, e2⟩ := hu
    subst e2
    refine PySem.W.kdv_all0 ?_
    rw [makeFunction_eq]
    simp only [pure_bind, if_true, List.isEmpty_nil, List.isEmpty_cons, Bool.false_eq_true, if_false, List.filterMap_nil, List.zip_nil_right]
    refine wpAny_bind (wpAny_newTextTuple ?_)
    have I2 : Inv X pins σ H1 { s1 with heap := s1.heap.push (PySem.W.kdv_tup [u]) } := I1.kept (t' := s1.toks) fun b o e => Heap.get?_push_of_some _ e
    exact lam_tail (dv := [u]) I2 TB hcode t hcaps (Or.inr ⟨s1.heap.objs.size, rfl, by simp, Heap.get?_push_size _ rfl, I1.hok.fresh (Nat.le_refl _), frs_lt I1 (Nat.le_refl _)⟩) fun f c' pm ctv doc H2 s2 => h f c' _ [u] pm ctv doc H2 s2 (by rw [hd]; rfl)
/-- how a thunk's parameters are bound when it is called without arguments -/
def ThkB (params : Arguments) (body : Expr) (scope : Scope) (q : Str) : Prop := ∀ (cl : List (Str × Addr)) (dV doc pm cdv ctv : Value) (dv : List Value) (s1 : Shared) (H1 : Hp) (fr : List Addr), dv.length = params.defaults.length → DfltAt s1.heap H1 fr dV dv →
  ∃ bd, BindsTo s1 (PySem.W.kdv_fn "<lambda>" q params (.expr body) scope cl dV doc pm cdv ctv) ⟨[], []⟩ bd ∧ ∀ y ∈ bd, scope.names.lookup y.1 = some NameKind.local
theorem thkB0 {params : Arguments} {body : Expr} {scope : Scope} {q : Str} (hd : params.defaults = [])
    (h : ∀ (cl : List (Str × Addr)) (doc pm cdv ctv : Value), bindArgs (PySem.W.kdv_fn "<lambda>" q params (.expr body) scope cl .none doc pm cdv ctv) ⟨[], []⟩ = pure []) : ThkB params body scope q := by
  intro cl dV doc pm cdv ctv dv s1 H1 fr hl hdv
  rw [hd] at hl
  have hdv0 : dv = [] := List.length_eq_zero_iff.mp hl
  rcases hdv with ⟨e, _⟩ | ⟨T, _, z, _⟩
  · rw [e]
    exact ⟨[], BindsTo.of_eq (h cl doc pm cdv ctv), by simp⟩
  · exact absurd hdv0 z
theorem thkB1 {params : Arguments} {body : Expr} {scope : Scope} {q x : Str} (hd : params.defaults.length = 1) (hx : scope.names.lookup x = some NameKind.local)
    (h : ∀ (cl : List (Str × Addr)) (T : Addr) (doc pm cdv ctv v : Value), ∃ k, bindArgs (PySem.W.kdv_fn "<lambda>" q params (.expr body) scope cl (.ref T) doc pm cdv ctv) ⟨[], []⟩ = seqItems? (.ref T) >>= k ∧ k (some #[v]) = pure [(x, v)]) : ThkB params body scope q := by
  intro cl dV doc pm cdv ctv dv s1 H1 fr hl hdv
  rw [hd] at hl
  rcases hdv with ⟨_, e⟩ | ⟨T, e, z, g, _⟩
  · rw [e] at hl
    cases hl
  · obtain ⟨v, rfl⟩ : ∃ v, dv = [v] := by
      match dv, hl with
      | [v], _ => exact ⟨v, rfl⟩
    subst e
    obtain ⟨k, h1, h2⟩ := h cl T doc pm cdv ctv v
    exact ⟨[(x, v)], BindsTo.of_defaults rfl g rfl h1 h2, fun y hy => by rw [List.mem_singleton.mp hy]; exact hx⟩
/-- the context of the thunk's body -/
abbrev thkEnv (X : Cx) (q : Str) (scope : Scope) (L f c' : Addr) : Env := PySem.W.envX q scope L f (.ref c') (cloFrom X.env.cells scope.names [])
def thkCx (X : Cx) (Nl : List Str) (q : Str) (A : Around) (outer : List Env) (s : Shared) (H : Hp) (E : XK) (scope : Scope) (f c' : Addr) : Cx where
  prog := X.prog
  w := X.w
  K := X.K
  mg := X.mg
  base := X.base
  N := Nl
  s_0 := s
  H_0 := H
  A := A.deeper (thkEnv X q scope s.heap.objs.size f c')
  env := thkEnv X q scope s.heap.objs.size f c'
  outer := outer
  stack := thkEnv X q scope s.heap.objs.size f c' :: outer
  ex := []
  pn := []
  calm := true
  fn := fun _ => false
  xe := fun e s' => wpAny (model X.prog X.w) (A.deeper (thkEnv X q scope s.heap.objs.size f c')) (leaving (thkEnv X q scope s.heap.objs.size f c') e) (fun _ s'' => L2N.CX X.prog X.w outer H s E e s'') (fun e' s'' => L2N.CX X.prog X.w outer H s E e' s'') s'
theorem thk_in {Nl : List Str} {q : Str} {A : Around} {outer : List Env} {E : XK} {scope : Scope} {f c' : Addr} {hp : Heap} {tk : Nat} {bd : List (Str × Value)} (I : Inv X pins σ H s) (L : LamN X.N Nl X.env.scope scope) (e0 : Env0 X.prog X.w X.K X.mg X.base A outer s1 HZ) (hd : A.handled = none)
    (un : Un (frs X.stack) [] H HZ s.heap s1.heap) (hns : hp.Ns s1.heap.objs.size fun y => bd.reverse.lookup y) (kp : ∀ b o, s1.heap.get? b = some o → hp.get? b = some o) :
    Inv (thkCx X Nl q A outer s1 HZ E scope f c') [] σ HZ { s1 with heap := hp, toks := tk } := by
  have caps := L.caps I.ok
  -- a cell of the thunk is one of the maker
  have back : ∀ {y : Str} {c : Addr}, (cloFrom X.env.cells scope.names []).lookup y = some c → X.env.cells.lookup y = some c := by
    intro y c e
    rcases cloFrom_mem (PySem.mem_of_lookup e) with z | ⟨z1, z2⟩
    · cases z
    · obtain ⟨c1, e1⟩ := caps _ z1 rfl
      have e1' : X.env.cells.lookup y = some c1 := e1
      rw [e1'] at z2
      rw [z2]
      exact e1'
  have forth : ∀ {y : Str}, scope.names.lookup y = some NameKind.free → ∃ c, (cloFrom X.env.cells scope.names []).lookup y = some c := by
    intro y e
    exact mem_lookup (cloFrom_has (cells := X.env.cells) (acc := []) (PySem.mem_of_lookup e))
  have held : ∀ {c : Addr} {v : Option Value}, H c = none → s.heap.IsCell c v → hp.IsCell c v := by
    intro c v n z
    obtain ⟨o, ho, hdt⟩ := z
    obtain ⟨sl, e⟩ := un.any ho n List.not_mem_nil
    exact ⟨_, kp _ _ e, hdt⟩
  have exO : ∀ b : Addr, b ∉ (thkCx X Nl q A outer s1 HZ E scope f c').ex := fun b => List.not_mem_nil
  have okT : (thkCx X Nl q A outer s1 HZ E scope f c').Ok := by
    refine ⟨e0.mod, L.kind, rfl, rfl, Nat.le_refl _, ?_, ?_, ?_, (fun _ => hd), Around.frames_deeper e0.frames, Or.inr ⟨rfl, rfl⟩,
      (fun b z => absurd z (exO b)), e0.bs, e0.bsz, (fun b _ _ => exO b), (fun b z => absurd z (exO b)), e0.funs, e0.frf⟩
    · exact fun y z c e1 e2 => I.ok.inj y z c (back e1) (back e2)
    · intro y hy
      have hy' : scope.names.lookup y = some NameKind.cell ∨ scope.names.lookup y = some NameKind.free := hy
      rcases hy' with k | k
      · exact absurd rfl (L.noCell _ (PySem.mem_of_lookup k))
      · exact forth k
    · intro y c z
      exact Bool.noConfusion (show false = true from z)
  refine ⟨okT, rfl, e0.bare, Un.kept kp, ⟨_, hns, ?_⟩, ?_, e0.hok.fresh (Nat.le_refl _), ?_, (fun p hp' => ?_), e0.hok.kept kp, I.len.trans L.len.symm⟩
  · intro i y v e1 e2 e3
    have e3' : Vis scope y := e3
    obtain ⟨e1', nl⟩ := L.seen i y e1 e3'
    rcases e3' with k | k | k
    · exact absurd k nl
    · exact absurd rfl (L.noCell _ (PySem.mem_of_lookup k))
    · obtain ⟨m, _, look⟩ := I.loc
      have vis : Vis X.env.scope y := by
        rcases L.free _ (PySem.mem_of_lookup k) rfl with z | z
        · exact Or.inr (Or.inl z)
        · exact Or.inr (Or.inr z)
      obtain ⟨u, rel, where_⟩ := look i y v e1' e2 vis
      obtain ⟨c2, at2⟩ := forth k
      refine ⟨u, rel, Or.inr ⟨Or.inr k, c2, at2, ?_⟩⟩
      have c1 := back at2
      rcases where_ with ⟨z, _⟩ | ⟨_, c3, at3, z⟩
      · have z' : X.env.scope.names.lookup y = some NameKind.local := z
        rcases L.free _ (PySem.mem_of_lookup k) rfl with w | w
        · rw [show X.env.scope.names.lookup y = _ from w] at z'
          cases z'
        · rw [show X.env.scope.names.lookup y = _ from w] at z'
          cases z'
      · rw [c1] at at3
        cases at3
        exact held (I.freeC y _ c1) z
  · intro y c e
    obtain ⟨v, z⟩ := I.cell y c (back e)
    exact ⟨v, held (I.freeC y c (back e)) z⟩
  · intro y c e
    obtain ⟨v, o, ho, _⟩ := I.cell y c (back e)
    exact un.free c o ho (I.freeC y c (back e)) List.not_mem_nil
  · exact absurd (show p ∈ ([] : List (Addr × Obj)) ++ [] from hp') (by simp)
end
/-- what a call of the held thing does in Z, at Z's start: what the outcome r tells, seen from ρ -/
def Act (Z : Cx) (ca : Nat → Addr) (a : Str) (σ0 : SSt) (H0 : Hp) (ρ : List Addr) (r : R T) : Prop :=
  ∀ (W : WX) (pn : List (Addr × Obj)) (xe : Value → Shared → Prop) (p1 p2 : Pos), L2N.Takes (Z.tr pn xe) W →
    PE (Z.tr pn xe) (.Call (.Name a p1) [] [] p2) (fun σ H Q => σ = σ0 ∧ H = H0 ∧ Post Z.K ca W σ0 ρ H0 (fun t _ ρ' H' => ∀ v, RelT Z.K ca H0 ρ' H' v t → Q v H') r)
section
variable {X : Cx} {ca : Nat → Addr} {pins : List (Addr × Obj)} {σ : SSt} {H : Hp} {s : Shared} {ρ : List Addr} {G : GH} {τ : Sl}
theorem post_wx {K : PySem.W.Frag} {α : Type} {W W' : WX} {σ σ' : SSt} {P : α → GH → List Addr → Hp → Prop} {r : R α} (h : Post K ca W σ ρ H P r) (hw : ∀ c d H', W c d σ H' → W' c d σ' H') : Post K ca W' σ' ρ H P r := by
  cases r with
  | ok a G' => exact h
  | ex c fs G' => exact fun ρ' H' d x r e => hw _ _ _ (h ρ' H' d x r e)
  | bad => exact h
theorem act_of {Nl : List Str} {Eg : XK} {Ng : List Str} {qg q a : Str} {sg scope : Scope} {g f c' : Addr} {cdg dV doc pm ctv : Value} {dv : List Value} {params : Arguments} {body : Expr} {k i : Nat} {mb : M T} (I : Inv X pins σ H s) (L : LamN X.N Nl X.env.scope scope)
    (hf : s.heap.get? f = some (PySem.W.kdv_obj "<lambda>" q params (.expr body) scope (cloFrom X.env.cells scope.names []) dV doc pm c' ctv)) (hdl : dv.length = params.defaults.length) (hdv : DfltAt s.heap H (frs X.stack) dV dv) (hfn : H f = none) (hfr : f ∉ frs X.stack) (hco : H c' = some (LamX.CodeO c' q))
    (hb : ThkB params body scope q) (hr : Room (k + 1) (X.A.deeper (envOfC qg sg s.heap.objs.size g cdg)))
    (hbody : ∀ (A : Around) (outer : List Env) (s1 : Shared) (H1 : Hp) (E : XK), Room k (A.deeper (thkEnv X q scope s1.heap.objs.size f c')) → PE (thkCx X Nl q A outer s1 H1 E scope f c') body (tE X.K ca (fun c d _ H => E c d H) mb))
    (hN : Ng[i]? = some a) (hv : Vis sg a) (hsl : (L2.start Ng [V.ref f])[i]? = some (some (.ref f))) (r : Rep X.K ca ρ G H) (sl : RelS X.K ca ρ H σ τ)
    (hdb : (a == ("__debug__" : Str)) = false := by decide) (hcd : (a == ("__classdict__" : Str)) = false := by decide) :
    Act (cxOf (L2N.CX X.prog X.w) X.prog X.w X.K X.mg X.base Ng qg sg g cdg X.A X.stack s H Eg) ca a (L2.start Ng [V.ref f]) H ρ (mb τ G) := by
  intro W pn xe p1 p2 tk
  refine ⟨fun pinsZ sZ σZ HZ Q IZ h => ?_⟩
  obtain ⟨e1, e2, hp⟩ := h
  subst e1
  subst e2
  refine wpAny_Call_Name_kw (thn ((pe_var (pos := p1) (i := i) hN hv hdb hcd).run pinsZ sZ _ HZ (fun v H1 => v = .ref f ∧ H1 = HZ) IZ ⟨.ref f, hsl, rfl, rfl⟩) fun u s1 z => ?_)
  obtain ⟨v, H1, I1, rv, ev, eH⟩ := z
  subst ev
  subst eH
  obtain rfl : u = Value.ref f := rv
  have un : Un (frs X.stack) [] H1 H1 s.heap s1.heap := I1.base
  have of1 := un.keep f _ hf hfn hfr List.not_mem_nil
  have dv1 : DfltAt s1.heap H1 (frs X.stack) dV dv := by
    rcases hdv with z | ⟨T, z1, z2, z3, z4, z5⟩
    · exact Or.inl z
    · exact Or.inr ⟨T, z1, z2, un.keep T _ z3 z4 z5 List.not_mem_nil, z4, z5⟩
  obtain ⟨bd, hbd, hloc⟩ := hb (cloFrom X.env.cells scope.names []) dV doc pm (.ref c') ctv dv s1 H1 (frs X.stack) hdl dv1
  obtain ⟨⟨oc, vs, tt, hoc, hdc, hvc⟩, _, _⟩ := I1.hok c' _ hco
  refine PySem.W.callWith_F0 ⟨_, _, _, _, of1⟩ ?_
  have run : codeAny (model X.prog X.w) (X.A.deeper (envOfC qg sg s.heap.objs.size g cdg)) (.call (.ref f) ⟨[], []⟩) (CR (L2N.CX X.prog X.w) (envOfC qg sg s.heap.objs.size g cdg :: X.stack) X.prog X.w H1 s1 Q (WE W (L2.start Ng [V.ref f]))) s1 := by
    refine PySem.W.kla_callFunE hr.depth of1 rfl L.co L.gen rfl ⟨c', oc, vs, tt, rfl, hoc, hdc, hvc⟩ (hbd _ _ _ _ ?_)
    refine wpAny_newFunctionEnv L.noCell hloc (fun hp' hns hsb => ⟨I1.nolimit.fresh _ hsb, ?_⟩) L.kind
    show codeAny _ _ (.expr body (thkEnv X q scope s1.heap.objs.size f c')) _ _
    have kp : ∀ b o, s1.heap.get? b = some o → hp'.get? b = some o := by
      intro b o e
      exact hsb.extBut b o (Nat.ne_of_lt (Heap.lt_size e)) (Heap.get?_push_of_some _ e)
    have J : Inv (thkCx X Nl q (X.A.deeper (envOfC qg sg s.heap.objs.size g cdg)) (envOfC qg sg s.heap.objs.size g cdg :: X.stack) s1 H1 (WE W (L2.start Ng [V.ref f])) scope f c') [] σ H1 { s1 with heap := hp', toks := s1.toks + bd.length } :=
      thk_in I L I1.env0 hr.hd un hns kp
    refine PySem.W.kla_codeExpr (wpAny_mono ((hbody _ _ s1 H1 _ (hr.deeper _)).run [] _ _ H1 Q J ⟨ρ, G, τ, r, sl, post_wx hp fun c d H' z => z⟩) (fun v s' hq => ?_) fun _ _ z => z)
    obtain ⟨w', H', J', rel, qq⟩ := hq
    exact ⟨w', H', J'.os, J'.bare, J'.base, J'.hok, rel, qq⟩
  refine wpAny_call (codeAny_mono run fun res s' hq => ?_)
  cases res with
  | error e => exact L2N.passAt tk (L2.start Ng [V.ref f]) pinsZ H1 s1 e s' I1 hq
  | ok fl =>
    cases fl with
    | ret u => exact I1.after hq
    | next => exact hq.elim
    | brk => exact hq.elim
    | cont => exact hq.elim
end
/-! the def that calls the thunk -/
def mRes (r : R T) : M T := fun _ _ => r
section
variable (K : PySem.W.Frag) (ca : Nat → Addr)
/-- an outcome, told from the start's slots and heap -/
def tF (Wx : WX) (σ0 : SSt) (H0 : Hp) (ρ : List Addr) (o : RS) : TS := fun D σ H => σ = σ0 ∧ H = H0 ∧ PostS K ca Wx D ρ H0 o
end
section
variable {X : Cx} {ca : Nat → Addr} {Wx : WX} {pos : Pos} {σ0 : SSt} {H0 : Hp} {ρ : List Addr}
/-- the outcome's own part of a try -/
theorem try_post {xt : XTab} {it : ITab} {C i : Nat} {mb : MS} {ms : Nat → Addr → MS} {τ0 : Sl} {D : Ends} (E : Exs X.K ca it xt) (h : PostS X.K ca Wx D ρ H0 (sTry xt C i mb ms τ0 [])) {W : WX}
    (hW : ∀ (c : Nat) (d : Option Addr) (σ' : SSt) (H' : Hp), (∃ b, PySem.W.exmOne X.K (.ref (ca c)) (.ref (ca C)) = some b ∧ (b = true → ∀ a, H' a = none → ∃ c', (Value.ref (ca c) = .ref (ca c') ∧ d = none) ∧ tS X.K ca wF (ms c' a) (unE i D) (σ'.set i (some (.ref a))) H') ∧ (b = false → Wx (.ref (ca c)) d σ' H')) → W (.ref (ca c)) d σ' H') :
    PostS X.K ca W D ρ H0 (mb τ0 []) := by
  unfold sTry at h
  cases e : mb τ0 [] with
  | nx τ1 G1 => rw [e] at h; exact h
  | rt w G1 => rw [e] at h; exact h
  | bk τ1 G1 => rw [e] at h; exact h
  | ct τ1 G1 => rw [e] at h; exact h
  | bad => rw [e] at h; exact h
  | ex c fs τ1 G1 =>
    rw [e] at h
    cases fs with
    | cons f fs => exact h.elim
    | nil =>
      dsimp only at h
      cases e2 : xsub xt c C with
      | none => rw [e2] at h; exact h.elim
      | some b =>
        rw [e2] at h
        have k := E.exm _ (xsub_mem e2)
        intro ρ1 H1 d σ1 x1 r1 s1 ef
        have hd := exF_nil ef
        subst hd
        refine hW c none σ1 H1 ?_
        cases b with
        | false => exact ⟨false, k, fun z => Bool.noConfusion z, fun _ => h ρ1 H1 none σ1 x1 r1 s1 ef⟩
        | true =>
          refine ⟨true, k, fun _ a ha => ⟨c, ⟨rfl, rfl⟩, ρ1, G1, τ1.set i (some (.exn c a)), r1, s1.set i (.exn c a), ?_⟩, fun z => Bool.noConfusion z⟩
          have h2 : PostS X.K ca Wx D ρ H0 (pick fun a => (ms c a (τ1.set i (some (.exn c a))) G1).unS i) := h
          have nb : (pick fun a => (ms c a (τ1.set i (some (.exn c a))) G1).unS i) ≠ .bad := fun z => by rw [z] at h2; exact h2
          rw [← pick_at nb a] at h2
          exact PostS.later (unS_post h2) x1
theorem s_try0 {x n : Str} {C i : Nat} {it : ITab} {xt : XTab} {body suite : List Stmt} {b₀ : Stmt} {np pos' : Pos} {mb : MS} {ms : Nat → Addr → MS} {τ0 : Sl} (E : Exs X.K ca it xt) (hs : X.stack = X.env :: X.outer) (hf : X.env.frame = some X.env.locals) (hN : X.N.Nodup) (hi : X.N[i]? = some n)
    (hln : X.env.kindOf n = some .local) (hc : Names X x (.ref (ca C))) (tk : L2N.Takes X Wx)
    (hb : ∀ (W : WX) (pn : List (Addr × Obj)) (xe : Value → Shared → Prop), L2N.Takes (X.tr pn xe) W → PSs (X.tr pn xe) body (tF X.K ca W σ0 H0 ρ (mb τ0 [])))
    (hsu : ∀ (c : Nat) (a : Addr) (oe : Obj) (pn : List (Addr × Obj)), Has (X.suite a ((a, oe) :: pn)) ca c a → PSs (X.suite a ((a, oe) :: pn)) (b₀ :: suite) (tS X.K ca wF (ms c a))) :
    PS X (.Try body [.ExceptHandler (some (.Name x np)) (some n) (b₀ :: suite) pos'] [] [] pos) (tF X.K ca Wx σ0 H0 ρ (sTry xt C i mb ms τ0 [])) := by
  refine PS.weak (L2N.ps_try_as (ts := fun a cls d D σ H => ∃ c, (cls = .ref (ca c) ∧ d = none) ∧ tS X.K ca wF (ms c a) D σ H) (tb := fun W => tF X.K ca W σ0 H0 ρ (mb τ0 [])) hs hf hN hi hln hc tk (fun W pn xe tk _ => hb W pn xe tk) (fun a oe cls d pn hz hfd => ?_)) fun D σ H h => ?_
  · refine PSs.any fun c hcd => ?_
    obtain ⟨rfl, rfl⟩ := hcd
    obtain ⟨vs, hf⟩ := hfd
    exact hsu c a oe pn ⟨rfl, oe, List.mem_cons_self, hz.zc, vs, hf, hz.2.2 vs hf⟩
  · obtain ⟨e1, e2, h⟩ := h
    exact ⟨e1, e2, try_post E h fun c d σ' H' z => z⟩
theorem f_ret {a : Str} {p1 p2 : Pos} {r : R T} {τ0 : Sl} {W : WX} {pn : List (Addr × Obj)} {xe : Value → Shared → Prop} (A : Act X ca a σ0 H0 ρ r) (r0 : ∃ G, Rep X.K ca ρ G H0) (s0 : RelS X.K ca ρ H0 σ0 τ0) (tk : L2N.Takes (X.tr pn xe) W) :
    PSs (X.tr pn xe) [.Return (some (.Call (.Name a p1) [] [] p2)) pos] (tF X.K ca W σ0 H0 ρ (sRet (mRes r) τ0 [])) := by
  refine PSs.weak (pss_one (ps_ret (A W pn xe p1 p2 tk))) fun D σ H h => ?_
  obtain ⟨e1, e2, h⟩ := h
  refine ⟨e1, e2, ?_⟩
  subst e1; subst e2
  cases r with
  | bad => exact h.elim
  | ex c fs G' =>
    obtain ⟨G, r0⟩ := r0
    exact fun ρ' H' d x r1 ef => h ρ' H' d σ x r1 (s0.ext r0 x) ef
  | ok t G' =>
    intro ρ' H' x r1 v q
    cases t with
    | val w => exact h ρ' H' v x r1 q
    | tmp ws =>
      obtain ⟨p, vs, e, hn, h0, hp, hv⟩ := q
      have r2 := r1.take hn hp hv
      refine h (ρ' ++ [p]) H' v (x.take h0) r2 ?_
      rw [e]
      refine .loc ?_
      rw [← r1.len]
      simp
theorem f_drop {a : Str} {p1 p2 : Pos} {r : R T} {τ0 : Sl} {W : WX} {pn : List (Addr × Obj)} {xe : Value → Shared → Prop} (A : Act X ca a σ0 H0 ρ r) (r0 : ∃ G, Rep X.K ca ρ G H0) (s0 : RelS X.K ca ρ H0 σ0 τ0) (tk : L2N.Takes (X.tr pn xe) W)
    (hs : swapsWith (.Call (.Name a p1) [] [] p2) none pos.line (X.tr pn xe).env = pure false := by rfl) :
    PSs (X.tr pn xe) [.Expr (.Call (.Name a p1) [] [] p2) pos] (tF X.K ca W σ0 H0 ρ (sDrop (mRes r) τ0 [])) := by
  refine PSs.weak (pss_one (ps_expr (A W pn xe p1 p2 tk) hs)) fun D σ H h => ?_
  obtain ⟨e1, e2, h⟩ := h
  refine ⟨e1, e2, ?_⟩
  subst e1; subst e2
  obtain ⟨G, r0⟩ := r0
  cases r with
  | bad => exact h.elim
  | ex c fs G' => exact fun ρ' H' d x r1 ef => h ρ' H' d σ x r1 (s0.ext r0 x) ef
  | ok t G' => exact fun ρ' H' x r1 v q => h ρ' H' σ x r1 (s0.ext r0 x)
theorem f_one {st : Stmt} {o : RS} (h : PS X st (tF X.K ca Wx σ0 H0 ρ o)) : PSs X [st] (tF X.K ca Wx σ0 H0 ρ o) := pss_one h
theorem f_cons {st : Stmt} {rest : List Stmt} {o : RS} {m2 : MS} (h1 : PS X st (tF X.K ca Wx σ0 H0 ρ o)) (h2 : PSs X rest (tS X.K ca Wx m2)) : PSs X (st :: rest) (tF X.K ca Wx σ0 H0 ρ (o.andThen m2)) := by
  refine PSs.weak (pss_cons h1 h2) fun D σ H h => ?_
  obtain ⟨e1, e2, h⟩ := h
  refine ⟨e1, e2, ?_⟩
  cases o with
  | nx τ1 G1 => exact fun ρ' H' σ' x r' s' => ⟨ρ', G1, τ1, r', s', PostS.later h x⟩
  | rt w G1 => exact h
  | bk τ1 G1 => exact h
  | ct τ1 G1 => exact h
  | ex c fs τ G1 => exact h
  | bad => exact h
end
/-- what a def's body leaves -/
def endR : RS → R W
  | .nx _ G' => .ok .non G'
  | .rt w G' => .ok w G'
  | .ex c fs _ G' => .ex c fs G'
  | _ => .bad
/-- a def that calls the thunk it is handed: what it makes of the thunk's outcome -/
structure CallT (P : Program) (w : World) (K : PySem.W.Frag) (mg : Str → Option Value) (base : Heap) (ca : Nat → Addr) (k : Nat) (x a : Str) (n : Nat) (b : R T → Sl → RS) : Prop where
  ex : ∃ (g : Addr) (fd : FuncData) (params : Arguments) (body : List Stmt) (scope : Scope) (N : List Str), mg x = some (.ref g) ∧ FunD K x x params body scope [] [] g fd ∧ Binds K fd [a] [] ∧ FnScope N [a] scope ∧ N[0]? = some a ∧ Vis scope a ∧ N.length = n ∧
    ∀ (cdv : Value) (A : Around) (outer : List Env) (s : Shared) (H : Hp) (E : XK) (fl : Addr) (ρ : List Addr) (G : GH) (r : R T), Room k (A.deeper (envOfC x scope s.heap.objs.size g cdv)) → Rep K ca ρ G H →
      Act (cxOf (L2N.CX P w) P w K mg base N x scope g cdv A outer s H E) ca a (L2.start N [V.ref fl]) H ρ r →
        PSs (cxOf (L2N.CX P w) P w K mg base N x scope g cdv A outer s H E) body (tF K ca (fun c d _ H => E c d H) (L2.start N [V.ref fl]) H ρ (b r (List.replicate N.length none)))
theorem relS_none {K : PySem.W.Frag} {ca : Nat → Addr} {ρ : List Addr} {H : Hp} {σ : SSt} {n : Nat} (h : σ.length = n) : RelS K ca ρ H σ (List.replicate n none) := by
  refine ⟨by simp [h], fun i w e => ?_⟩
  by_cases hi : i < n
  · rw [List.getElem?_replicate, if_pos hi] at e
    cases e
  · rw [List.getElem?_replicate, if_neg hi] at e
    cases e
theorem start_len (N : List Str) (vs : List V) (h : vs.length ≤ N.length) : (L2.start N vs).length = N.length := by
  unfold L2.start
  simp
  omega
def mThunk (k : Nat) (q : Str) (n : Nat) (b : R T → Sl → RS) (mb : M T) : M T := fun τ G => match G[k]? with
  | some (.tb j z) => if j = k ∧ z = q then (endR (b (mb τ G) (List.replicate n none))).bind fun w G1 => .ok (.val w) G1 else .bad
  | _ => .bad
theorem postS_end {K : PySem.W.Frag} {ca : Nat → Addr} {Wx : WX} {σ : SSt} {ρ : List Addr} {H0 H : Hp} {o : RS} {Q : VK} {E : XK} (x : Ext ρ H ρ H0) (hE : ∀ c d H', Wx c d σ H' → E c d H')
    (h : Post K ca Wx σ ρ H (fun t _ ρ' H' => ∀ v, RelT K ca H ρ' H' v t → Q v H') ((endR o).bind fun w G1 => .ok (.val w) G1)) :
    PostS K ca (fun c d _ H => E c d H) { nx := fun _ H' => Q .non H', rt := Q, bk := fun _ _ => False, ct := fun _ _ => False } ρ H0 o := by
  cases o with
  | nx τ G => exact fun ρ' H' σ' x' r' s' => h ρ' H' (x.trans x') r' .non .non
  | rt w G => exact fun ρ' H' v x' r' q => h ρ' H' (x.trans x') r' v q
  | ex c fs τ G => exact fun ρ' H' d σ' x' r' s' ef => hE _ _ _ (h ρ' H' d (x.trans x') r' ef)
  | bk τ G => exact h.elim
  | ct τ G => exact h.elim
  | bad => exact h.elim
section
variable {K : PySem.W.Frag} {ca : Nat → Addr} {ρ : List Addr} {G : GH} {H H1 : Hp}
theorem objR_some {a : Addr} {o : GO} (h : ObjR K ca ρ H a o) : ∃ u, H a = some u := by
  cases o with
  | lst ws => obtain ⟨vs, e, _⟩ := h; exact ⟨_, e⟩
  | dK ws => obtain ⟨vs, e, _⟩ := h; exact ⟨_, e⟩
  | dT ws => obtain ⟨vs, e, _⟩ := h; exact ⟨_, e⟩
  | ins c fs => obtain ⟨dx, vs, e, _⟩ := h; exact ⟨_, e⟩
  | tb k q => obtain ⟨_, ps, e, _⟩ := h; exact ⟨_, e⟩
/-- a table was written -/
theorem Rep.table {P : Addr} {k : Nat} {q : Str} (r : Rep K ca ρ G H) (hP : ρ[k]? = some P) (hG : G[k]? = some (.tb k q)) (stay : ∀ b o, b ≠ P → H b = some o → H1 b = some o) (t : LamX.TabS H1 P q) : Rep K ca ρ G H1 ∧ Ext ρ H ρ H1 := by
  have oP := r.obj k P _ hP hG
  obtain ⟨eP, ps0, tP, _⟩ := oP
  have st : Stay H H1 := fun a u s e => stay a u (fun z => by rw [z, tP] at e; cases e; cases s) e
  refine ⟨⟨r.len, r.nd, fun n a o e1 e2 => ?_⟩, ⟨fun _ _ h => h, fun _ h => .inl h, fun b o nb e => stay b o (fun z => nb (z ▸ List.mem_of_getElem? hP)) e⟩⟩
  have ho := r.obj n a o e1 e2
  by_cases hn : n = k
  · subst hn
    rw [hP] at e1
    cases e1
    rw [hG] at e2
    cases e2
    exact ⟨eP, t⟩
  · have ne : a ≠ P := fun z => by
      obtain ⟨h1, h2⟩ := List.getElem?_eq_some_iff.mp e1
      obtain ⟨h3, h4⟩ := List.getElem?_eq_some_iff.mp hP
      exact hn ((List.getElem_inj r.nd).mp (h2.trans (z.trans h4.symm)))
    obtain ⟨u, hu⟩ := objR_some ho
    exact objR_mono ho (fun _ _ h => h) st (by rw [hu]; exact stay a u ne hu)
end
section
variable {X : Cx} {ca : Nat → Addr} {Wx : WX}
theorem s_thunk {Nl : List Str} {x a q : Str} {k j kc n : Nat} {c : Addr} {b : R T → Sl → RS} {params : Arguments} {body : Expr} {scope : Scope} {mb : M T} {p lpos pos : Pos} (C : CallT X.prog X.w X.K X.mg X.base ca kc x a n b) (hg : Gl X x)
    (TB : LamX.TabB X.base X.mg c (ca (1000 + k))) (hcode : X.env.code = .ref c) (hq : X.env.qual ++ "<lambda>" = q) (hr : Room (j + 2) X.A) (hkc : kc ≤ j + 1) (L : LamN X.N Nl X.env.scope scope) (hd : ThkD params) (hb : ThkB params body scope q) (tk : L2N.Takes X Wx)
    (hbody : ∀ (A : Around) (outer : List Env) (s1 : Shared) (H1 : Hp) (E : XK) (f c' : Addr), Room j (A.deeper (thkEnv X q scope s1.heap.objs.size f c')) → PE (thkCx X Nl q A outer s1 H1 E scope f c') body (tE X.K ca (fun c d _ H => E c d H) mb))
    (hdb : (x == ("__debug__" : Str)) = false := by decide) (hda : (a == ("__debug__" : Str)) = false := by decide) (hdc : (a == ("__classdict__" : Str)) = false := by decide) :
    PE X (.Call (.Name x p) [.Lambda params body scope lpos] [] pos) (tE X.K ca Wx (mThunk k q n b mb)) := by
  refine ⟨fun pins s σ H Q I h => ?_⟩
  obtain ⟨ρ, G, τ, r, sl, h⟩ := h
  unfold mThunk at h
  cases eG : G[k]? with
  | none => rw [eG] at h; exact h.elim
  | some o =>
    rw [eG] at h
    cases o with
    | tb k' q' =>
      dsimp only at h
      by_cases hkq : k' = k ∧ q' = q
      · obtain ⟨rfl, rfl⟩ := hkq
        rw [if_pos ⟨rfl, rfl⟩] at h
        obtain ⟨P, hP, hobj⟩ := r.addr eG
        obtain ⟨eP, tP⟩ := hobj
        subst eP
        obtain ⟨g, fd, gparams, gbody, gscope, N, hm, F, hbd, Sg, hN0, hva, hNl, go⟩ := C.ex
        have kp := F.kp
        obtain ⟨oc, od, dV0, kV0, doc0, pm0, an0, cdv, ct0, osl, rfl, lk, hcg, _, _⟩ := F.ex
        refine wpAny_Call_Name_kw (ld_glob I hg hm ?_ hdb)
        refine PySem.W.callWith_K (h₀ := X.base) I.ok.mod.kin kp ?_ (by rfl) (by rfl)
        show wpAny _ _ (spliced ((false, eval (.Lambda params body scope lpos) X.env) :: backTo pos (starEach [] X.env))) _ _ s
        refine Calls.spliced_cons (lam_made I TB hcode tP hq (L.caps I.ok) hd fun f c' dV dv pm ctv doc H1 s' hdl I1 stay t1 hf hdv hfn hfr hco => ?_)
        refine Calls.spliced_nil ⟨I1.kIn, ?_⟩
        obtain ⟨r1, x1⟩ := r.table hP eG stay t1
        have run : codeAny (model X.prog X.w) X.A (.call (.ref g) ⟨[.ref f], []⟩) (CR (L2N.CX X.prog X.w) X.stack X.prog X.w H1 s' Q (WE Wx σ)) s' := by
          refine LamX.run_ofS (N := N) (ps := [a]) (us := [.ref f]) (vs := [.ref f]) lk hcg Sg hr I1.env0 (by simpa using hbd s' [.ref f] I1.kIn rfl) (.cons rfl .nil) rfl fun hr' => ?_
          have hst0 : (L2.start N [V.ref f])[0]? = some (some (.ref f)) := rfl
          have act := act_of (ca := ca) (Eg := WE Wx σ) (Ng := N) (qg := x) (sg := gscope) (g := g) (cdg := cdv) (k := j) (i := 0) (a := a) (mb := mb) I1 L hf hdl hdv hfn hfr hco hb hr' (fun A outer s1 H2 E hr2 => hbody A outer s1 H2 E f c' hr2) hN0 hva hst0 r1 (sl.ext r x1) hda hdc
          refine ⟨_, go cdv X.A X.stack s' H1 (WE Wx σ) f ρ G (mb τ G) (hr'.mono hkc) r1 act, rfl, rfl, ?_⟩
          rw [hNl]
          exact postS_end x1 (fun c d H' z => z) h
        refine wpAny_call (codeAny_mono run fun res s2 hq2 => ?_)
        cases res with
        | error e => exact L2N.passAt tk σ pins H1 s' e s2 I1 hq2
        | ok fl =>
          cases fl with
          | ret u => exact I1.after hq2
          | next => exact hq2.elim
          | brk => exact hq2.elim
          | cont => exact hq2.elim
      · rw [if_neg hkq] at h
        exact h.elim
    | lst ws => exact h.elim
    | dK ws => exact h.elim
    | dT ws => exact h.elim
    | ins c fs => exact h.elim
end
/-! a def that makes thunks -/
section
variable {P : Program} {w : World} {K : PySem.W.Frag} {mg : Str → Option Value} {base : Heap} {ca : Nat → Addr}
theorem def_okT {x qual : Str} {params : Arguments} {body : List Stmt} {scope : Scope} {dvs : List V} {kws : List (Str × V)} {f c : Addr} {fd : FuncData} {N ps : List Str} {k : Nat} {mb : MS} (F : FunD K x qual params body scope dvs kws f fd) (S : FnScope N ps scope)
    (hc : ∀ (oc : Value) (od : Option Addr) (fd' : FuncData) (osl : Array (Option Value)), K.lookup f = some ⟨oc, od, .func fd', osl⟩ → fd'.code = .ref c)
    (hb : ∀ (A : Around) (outer : List Env) (s : Shared) (H : Hp) (E : XK), Room k (A.deeper (envOfC qual scope s.heap.objs.size f (.ref c))) →
      PSs (cxOf (L2N.CX P w) P w K mg base N qual scope f (.ref c) A outer s H E) body (tS K ca (fun c d _ H => E c d H) mb)) :
    FnOk P w K mg base (L2N.CX P w) (k + 1) f fd ps (spM K ca ps.length (mDef N.length mb)) := by
  obtain ⟨oc, od, dV, kV, doc, pm, an, cdv, ct, osl, rfl, lk, hcd, _, _⟩ := F.ex
  have e0 : cdv = .ref c := hc _ _ _ _ lk
  subst e0
  refine L2.fn_of lk hcd S (fun vs H Q E h => h.1) fun A outer s H vs Q E hr h => ?_
  obtain ⟨hl, ρ, G, ws, r, q, h⟩ := h
  refine ⟨_, hb A outer s H E hr, ρ, G, _, r, relS_start q, ?_⟩
  unfold mDef at h
  cases e : mb (ws.map some ++ List.replicate (N.length - ws.length) none) G with
  | nx τ G' => rw [e] at h; exact fun ρ' H' σ' x r' s' => h ρ' H' x r' .non .non
  | rt w G' => rw [e] at h; exact fun ρ' H' v x r' q' => h ρ' H' x r' v q'
  | ex c fs τ G' => rw [e] at h; exact fun ρ' H' d σ' x r' s' ef => h ρ' H' d x r' ef
  | bk τ G' => rw [e] at h; exact h.elim
  | ct τ G' => rw [e] at h; exact h.elim
  | bad => rw [e] at h; exact h.elim
theorem callT_mk {k n : Nat} {x a : Str} {b : R T → Sl → RS} {g : Addr} {fd : FuncData} {params : Arguments} {body : List Stmt} {scope : Scope} {N : List Str} (hm : mg x = some (.ref g)) (F : FunD K x x params body scope [] [] g fd) (hb : Binds K fd [a] []) (S : FnScope N [a] scope) (hN : N[0]? = some a) (hv : Vis scope a) (hn : N.length = n)
    (go : ∀ (cdv : Value) (A : Around) (outer : List Env) (s : Shared) (H : Hp) (E : XK) (fl : Addr) (ρ : List Addr) (G : GH) (r : R T), Room k (A.deeper (envOfC x scope s.heap.objs.size g cdv)) → Rep K ca ρ G H →
      Act (cxOf (L2N.CX P w) P w K mg base N x scope g cdv A outer s H E) ca a (L2.start N [V.ref fl]) H ρ r →
        PSs (cxOf (L2N.CX P w) P w K mg base N x scope g cdv A outer s H E) body (tF K ca (fun c d _ H => E c d H) (L2.start N [V.ref fl]) H ρ (b r (List.replicate N.length none)))) : CallT P w K mg base ca k x a n b :=
  ⟨g, fd, params, body, scope, N, hm, F, hb, S, hN, hv, hn, go⟩
end
/-! equations -/
section
variable {τ : Sl} {G : GH}
@[simp] theorem mRes_at (r : R T) : mRes r τ G = r := (rfl)
@[simp] theorem endR_nx : endR (.nx τ G) = .ok .non G := (rfl)
@[simp] theorem endR_rt (w : W) : endR (.rt w G) = .ok w G := (rfl)
@[simp] theorem endR_ex (c : Nat) (fs : List (Str × W)) : endR (.ex c fs τ G) = .ex c fs G := (rfl)
theorem mThunk_at {k n : Nat} {q : Str} {b : R T → Sl → RS} {mb : M T} (h : G[k]? = some (.tb k q)) : mThunk k q n b mb τ G = (endR (b (mb τ G) (List.replicate n none))).bind fun w G1 => .ok (.val w) G1 := by
  unfold mThunk
  rw [h]
  exact if_pos ⟨rfl, rfl⟩
end
end Sy
set_option Elab.async false
set_option linter.all false
set_option maxRecDepth 100000
set_option maxHeartbeats 4000000
namespace Sy
open PySem PySem.Spec PyProof.Rows L2
/-! xs[::k], k from 1 on -/
/-- each k-th of a list, from the first on -/
def stepOf {α : Type} (xs : List α) (k : Int) : List α := (sliceRange 0 xs.length k).filterMap fun i => xs[i]?
theorem paired_picks {α β : Type} {P : α → β → Prop} {xs : List α} {ys : List β} (hl : xs.length = ys.length) (h : ∀ (i : Nat) x y, xs[i]? = some x → ys[i]? = some y → P x y) (is : List Nat) :
    Paired P (is.filterMap fun i => xs[i]?) (is.filterMap fun i => ys[i]?) := by
  induction is with
  | nil => exact .nil
  | cons i is ih =>
    rw [List.filterMap_cons, List.filterMap_cons]
    cases e1 : xs[i]? with
    | none =>
      have e2 : ys[i]? = none := List.getElem?_eq_none (by have := List.getElem?_eq_none_iff.mp e1; omega)
      rw [e2]
      exact ih
    | some x =>
      have hi := (List.getElem?_eq_some_iff.mp e1).1
      have e2 : ys[i]? = some ys[i] := List.getElem?_eq_getElem (by omega)
      rw [e2]
      exact .cons (h i x _ e1 e2) ih
theorem picks_len {α β : Type} {xs : List α} {ys : List β} (hl : xs.length = ys.length) (is : List Nat) : (is.filterMap fun i => xs[i]?).length = (is.filterMap fun i => ys[i]?).length :=
  (paired_picks (P := fun _ _ => True) hl (fun _ _ _ _ _ => trivial) is).length
theorem step_pick (items : Array Value) {k : Int} (hk : 0 < k) : slicePick items none none (some k) = (stepOf items.toList k).toArray := by
  unfold slicePick stepOf sliceBounds
  have h : (some k).getD 1 = k := rfl
  simp only [h]
  rw [if_pos hk, if_pos hk, Array.length_toList]
  congr 1
  refine congrArg (fun f => List.filterMap f _) (funext fun i => ?_)
  rw [Array.getElem?_toList]
theorem step_len_le {α : Type} (xs : List α) {k : Int} (hk : 0 < k) : (stepOf xs k).length ≤ xs.length := by
  have h1 : (stepOf xs k).length ≤ (sliceRange 0 xs.length k).length := List.length_filterMap_le _ _
  have h2 := sliceRange_length_le 0 xs.length k xs.length (fun _ => ⟨by omega, by omega⟩) (fun h => absurd hk h)
  omega
section
variable {X : Cx} {ca : Nat → Addr} {Wx : WX} {pos : Pos}
theorem vals_step {vs : List V} {us : List Value} (r : Vals vs us) (k : Int) : Vals (stepOf vs k) (stepOf us k) := by
  have hl := r.length
  have p := paired_picks (P := fun x u => RelV x u) hl (fun i x u e1 e2 => by
    obtain ⟨u2, e3, h⟩ := r.get e1
    rw [e2] at e3
    cases e3
    exact h) (sliceRange 0 us.length k)
  unfold stepOf
  rw [hl]
  exact vals_of_at p.length fun i x u e1 e2 => paired_get p i x u e1 e2
def tStepL (K : PySem.W.Frag) (te : TE) (ts : TO) : TE := fun σ H Q => te σ H fun x H1 => ts σ H1 fun o H2 => ∃ a xs k, x = .ref a ∧ o = some k ∧ 0 < k ∧ SqL K H2 a xs ∧ ∀ p, H2 p = none → Q (.ref p) (upd H2 p (.lst (stepOf xs k)))
theorem pe_stepL {e st : Expr} {te : TE} {ts : TO} {p3 pos : Pos} (he : PE X e te) (hst : PO X (some st) ts) : PE X (.Subscript e (.Slice none none (some st) p3) pos) (tStepL X.K te ts) := by
  refine ⟨fun pins s σ H Q I h => ?_⟩
  refine Subscript_ (thn (he.run pins s σ H _ I h) fun v s1 ⟨x, H1, I1, r1, q1⟩ => ?_)
  refine wpAny_Slice (thn (po_none.run pins s1 σ H1 (fun o H2 => o = none ∧ H2 = H1) I1 ⟨rfl, rfl⟩) fun vl s2 ⟨l, H2, I2, pl, el, e2⟩ => ?_)
  subst el e2
  refine thn (po_none.run pins s2 σ H2 (fun o H3 => o = none ∧ H3 = H2) I2 ⟨rfl, rfl⟩) fun vu s3 ⟨u, H3, I3, pu, eu, e3⟩ => ?_
  subst eu e3
  refine thn (hst.run pins s3 σ H3 _ I3 q1) fun vs s4 ⟨o, H4, I4, ps, q4⟩ => ?_
  obtain ⟨a, xs, k, ex, eo, hk, hx, q⟩ := q4
  subst ex eo
  cases r1
  have I5 : Inv X pins σ H4 { s4 with heap := s4.heap.push { cls := .type "slice", data := .fields #[vl, vu, vs] } } := I4.kept (t' := s4.toks) fun b ob q => Heap.get?_push_of_some _ q
  obtain ⟨its, r, ht, hz⟩ := I5.list hx
  have hlen := r.length
  show wpAny (model X.prog X.w) X.A (subscriptTail e (.Slice none none (some st) p3) (.ref a) (.ref s4.heap.objs.size)) (EP X pins σ Q) X.xe { s4 with heap := s4.heap.push { cls := .type "slice", data := .fields #[vl, vu, vs] } }
  refine tail_any (ops := [.ref a, .ref s4.heap.objs.size]) ht.isList.typeIs (PySem.slot_list_getitem.lookup) ?_ (by with_unfolding_all rfl)
  refine wpAny_getItem_list_slice ht.isList (Heap.IsSliceOf.new _ vl vu vs) pl pu ps (by intro z; cases z; exact absurd hk (by decide)) ?_ (by rw [List.size_toArray]; omega)
  rw [step_pick _ hk]
  refine ⟨.ref _, _, I5.laid (t' := s4.toks) (o := .lst (stepOf xs k)) (fun b ob q => Heap.get?_push_of_some _ q) (Nat.le_refl _) ?_, rfl, q _ (I5.hok.fresh (Nat.le_refl _))⟩
  exact ⟨Nat.le_trans (step_len_le xs hk) hz, _, 0, vals_step r k, Heap.get?_push_size _ rfl⟩
theorem relWs_step {K : PySem.W.Frag} {ρ : List Addr} {H : Hp} {vs : List V} {ws : List W} (q : RelWs K ca ρ H vs ws) (k : Int) : RelWs K ca ρ H (stepOf vs k) (stepOf ws k) := by
  have hl := q.length
  unfold stepOf
  rw [hl]
  have p := paired_picks hl (fun i x y e1 e2 => paired_get q i x y e1 e2) (sliceRange 0 ws.length k)
  exact relWs_of p.length fun i v w e1 e2 => paired_get p i v w e1 e2
def fStepL (t : T) (o : Option Int) (G : GH) : R T := match rdl t G, o with
  | some ws, some k => if 0 < k then .ok (.tmp (stepOf ws k)) G else .bad
  | _, _ => .bad
def mStepL (m : M T) (u : M (Option Int)) : M T := fun τ G => (m τ G).bind fun t G1 => (u τ G1).bind fun o G2 => fStepL t o G2
@[simp] theorem mStepL_at (m : M T) (u : M (Option Int)) (τ : Sl) (G : GH) : mStepL m u τ G = (m τ G).bind fun t G1 => (u τ G1).bind fun o G2 => fStepL t o G2 := (rfl)
theorem s_stepL {e st : Expr} {m : M T} {u : M (Option Int)} {p3 : Pos} (he : PE X e (tE X.K ca Wx m)) (hu : PO X (some st) (tO X.K ca Wx u)) : PE X (.Subscript e (.Slice none none (some st) p3) pos) (tE X.K ca Wx (mStepL m u)) := by
  refine PE.weak (pe_stepL he hu) fun σ H Q ⟨ρ, G, τ, r0, s0, h⟩ => ?_
  refine tE.seq r0 s0 h fun t G1 ρ1 H1 v x1 r1 s1 q1 h1 => ?_
  refine ⟨ρ1, G1, τ, r1, s1, (Post.bindX h1).imp fun o G2 ρ2 H2 _ r2 ⟨x2, h2⟩ => ?_⟩
  have q2 := q1.ext r1 x2
  unfold fStepL at h2
  cases e0 : rdl t G2 with
  | none => rw [e0] at h2; exact h2.elim
  | some ws =>
    rw [e0] at h2
    cases o with
    | none => exact h2.elim
    | some k =>
      dsimp only at h2
      by_cases hk : 0 < k
      · rw [if_pos hk] at h2
        obtain ⟨a, vs, rfl, hv, qs⟩ := rdl_of r2 q2 e0
        exact ⟨a, vs, k, rfl, rfl, hk, hv, fun p hp => h2 ρ2 _ (.laid hp) (r2.laid hp) _ ((fresh_tmp r2 hp (relWs_step qs k)).back (x1.trans x2) (.laid hp))⟩
      · rw [if_neg hk] at h2; exact h2.elim
/-! a, b, .. = a list -/
def sAsgL (gs : List W → Sl → Option Sl) (m : M T) : MS := fun τ G => (mF m τ G).toS τ fun w G1 => match rdw G1 w with
  | some ws => match gs ws τ with
    | some τ' => .nx τ' G1
    | none => .bad
  | none => .bad
theorem s_asgL {es : List Expr} {e : Expr} {k n : Nat} {pt : Pos} {gs : List W → Sl → Option Sl} {m : M T} (hc : X.calm = true) (he : PE X e (tE X.K ca Wx m)) (h : PGs X es (tGs X.K ca gs)) (hl : ∀ ws τ τ', gs ws τ = some τ' → ws.length = n)
    (hn : (assignEach es X.env).length = n := by rfl) (hst : (assignEach es X.env).findIdx? (·.1) = none := by rfl)
    (hs : swapsWithSole [.Tuple es k pt] e pos.line X.env = pure false := by rfl) (hw : swappedStores [.Tuple es k pt] e X.env = pure none := by rfl)
    (h1 : (assignEach [.Tuple es k pt] X.env).map (·.2) = [assign (.Tuple es k pt) X.env] := by rfl) : PS X (.Assign [.Tuple es k pt] e pos) (tS X.K ca Wx (sAsgL gs m)) := by
  refine PS.weak (ps_asg he (pg_unl hc h hn hst) hs hw h1) fun D σ H ⟨ρ, G, τ, r, s, h⟩ => ?_
  refine tE.seqFS r s h fun w G1 ρ1 H1 v x1 r1 s1 q1 h1 => ?_
  cases e0 : rdw G1 w with
  | none => rw [e0] at h1; exact h1.elim
  | some ws =>
    rw [e0] at h1
    obtain ⟨a, vs, rfl, hv, qs⟩ := rdw_of r1 q1 e0
    dsimp only at h1
    cases e : gs ws τ with
    | none => rw [e] at h1; exact h1.elim
    | some τ' => rw [e] at h1; exact ⟨a, vs, rfl, hv, qs.length.trans (hl ws τ τ' e), ρ1, G1, τ, ws, r1, s1, qs, τ', e, fun ρ' H' σ' x r s => h1 ρ' H' σ' x r s⟩
/-! 2 * (a < b) -/
def rMulB : R2 := fun x y H Q => ∃ i k, x = .int i ∧ y = .bl k ∧ Q (.int (i * b2i k)) H
theorem op_mul_ib : OpR X (binaryOp .Mult) rMulB := by
  intro pins s σ H x y v u Q I rx ry h
  obtain ⟨i, k, rfl, rfl, q⟩ := h
  obtain ⟨t, rfl⟩ := rx
  cases ry
  exact PySem.IntBool.mul_int_bool ⟨.int (i * b2i k), H, I.tok _, ⟨_, rfl⟩, q⟩
def fMulB (s t : T) (G : GH) : R T := match s, t with
  | .val (.int i), .val (.bl k) => .ok (.val (.int (i * b2i k))) G
  | _, _ => .bad
theorem says_mulB : Says2 X ca rMulB fMulB := by
  intro Wx σ ρ G H H0 x y s t Q r qx qy hp
  unfold fMulB at hp
  split at hp
  · cases qx
    cases qy
    exact ⟨_, _, rfl, rfl, hp ρ H .refl r _ (.int _)⟩
  · exact hp.elim
end
end Sy
set_option Elab.async false
set_option linter.all false
set_option maxRecDepth 100000
set_option maxHeartbeats 4000000
namespace Sy
open PySem PySem.Spec PyProof.Rows L2
theorem fz_script {K : PySem.W.Frag} {H : Hp} {a : Addr} {vs : List V} (hO : Only H) (h : SqL K H a vs) : FzL K H a vs := by
  rcases h with h | h
  · rcases h with h | h
    · rcases hO a with e | ⟨o, xs, e⟩ <;> (rw [h] at e; cases e)
    · exact .inl h
  · exact .inr h
theorem relWs_ints {K : PySem.W.Frag} {ca : Nat → Addr} {ρ : List Addr} {H : Hp} : ∀ ns : List Int, RelWs K ca ρ H (ns.map V.int) (ns.map W.int)
  | [] => .nil
  | n :: ns => .cons (.int n) (relWs_ints ns)
theorem RelW.frl' {K : PySem.W.Frag} {ca : Nat → Addr} {ρ : List Addr} {H : Hp} {a : Addr} {vs : List V} {ws : List W} (hs : FzL K H a vs) (h : RelWs K ca ρ H vs ws) : RelW K ca ρ H (.ref a) (.frl ws) :=
  .frl hs h.length fun i v w e1 e2 => paired_get h i v w e1 e2
/-- a def as it stands behind the top -/
structure DefAt (K : PySem.W.Frag) (x : Str) (st : Stmt) (f : Addr) : Prop where
  ex : ∃ (oc : Value) (od : Option Addr) (kV doc pm : Value) (an : Option Addr) (cdv ct : Value) (osl : Array (Option Value)),
    K.lookup f = some ⟨oc, od, .func (PySem.W.fnOf x x (defArgs st) (defBody st) (defScope st) .none kV doc pm an cdv ct), osl⟩ ∧ PySem.W.codeIn K cdv x = true ∧ PySem.W.keepIn K (.ref f) = true
theorem defAt_mk {K : PySem.W.Frag} {x : Str} {st : Stmt} {f : Addr} {oc : Value} {od an : Option Addr} {osl : Array (Option Value)} {kV doc pm cdv ct : Value} (l : K.lookup f = some ⟨oc, od, .func (PySem.W.fnOf x x (defArgs st) (defBody st) (defScope st) .none kV doc pm an cdv ct), osl⟩)
    (c : PySem.W.codeIn K cdv x = true) (k : PySem.W.keepIn K (.ref f) = true) : DefAt K x st f := ⟨_, _, _, _, _, _, _, _, _, l, c, k⟩
/-- .. with defaults, a tuple of them -/
structure DefAtD (K : PySem.W.Frag) (x : Str) (st : Stmt) (f : Addr) (dvs : List V) : Prop where
  ex : ∃ (oc : Value) (od : Option Addr) (T : Addr) (kV doc pm : Value) (an : Option Addr) (cdv ct : Value) (osl : Array (Option Value)) (o : Obj) (its : List Value) (n : Nat),
    K.lookup f = some ⟨oc, od, .func (PySem.W.fnOf x x (defArgs st) (defBody st) (defScope st) (.ref T) kV doc pm an cdv ct), osl⟩ ∧ PySem.W.codeIn K cdv x = true ∧ PySem.W.keepIn K (.ref f) = true ∧ K.lookup T = some o ∧ o.data = .seq its.toArray n ∧ Vals dvs its
theorem defAtD_mk {K : PySem.W.Frag} {x : Str} {st : Stmt} {f T : Addr} {oc : Value} {od an : Option Addr} {osl : Array (Option Value)} {kV doc pm cdv ct : Value} {o : Obj} {its : List Value} {n : Nat} {dvs : List V}
    (l : K.lookup f = some ⟨oc, od, .func (PySem.W.fnOf x x (defArgs st) (defBody st) (defScope st) (.ref T) kV doc pm an cdv ct), osl⟩)
    (c : PySem.W.codeIn K cdv x = true) (k : PySem.W.keepIn K (.ref f) = true) (lT : K.lookup T = some o) (hd : o.data = .seq its.toArray n) (hv : Vals dvs its) : DefAtD K x st f dvs := ⟨_, _, _, _, _, _, _, _, _, _, _, _, _, l, c, k, lT, hd, hv⟩
theorem DefAt.fun {K : PySem.W.Frag} {x : Str} {st : Stmt} {f : Addr} (D : DefAt K x st f) : ∃ fd, FunD K x x (defArgs st) (defBody st) (defScope st) [] [] f fd := by
  obtain ⟨oc, od, kV, doc, pm, an, cdv, ct, osl, l, c, k⟩ := D.ex
  exact ⟨_, ⟨_, _, _, _, _, _, _, _, _, _, rfl, l, c, .inl ⟨rfl, rfl⟩, .inl rfl⟩, k⟩
theorem DefAtD.fun {K : PySem.W.Frag} {x : Str} {st : Stmt} {f : Addr} {dvs : List V} (D : DefAtD K x st f dvs) (hn : dvs ≠ []) : ∃ fd, FunD K x x (defArgs st) (defBody st) (defScope st) dvs [] f fd := by
  obtain ⟨oc, od, T, kV, doc, pm, an, cdv, ct, osl, o, its, n, l, c, k, lT, hd, hv⟩ := D.ex
  exact ⟨_, ⟨_, _, _, _, _, _, _, _, _, _, rfl, l, c, .inr ⟨hn, T, o, its, n, rfl, lT, hd, hv⟩, .inl rfl⟩, k⟩
section
variable {P : Program} {w : World} {K : PySem.W.Frag} {mg : Str → Option Value} {base : Heap} {ca : Nat → Addr}
theorem callable_mk {k : Nat} {x : Str} {ps : List Str} {m : List W → GH → R W} {f : Addr} {fd : FuncData} (hm : mg x = some (.ref f)) (kp : PySem.W.keepIn K (.ref f) = true) (b : Binds K fd ps []) (F : FnOk P w K mg base (L2N.CX P w) k f fd ps (spM K ca ps.length m)) :
    Callable P w K mg base ca k x ps [] m := ⟨f, fd, [], [], hm, kp, b, .nil, fun _ _ => .nil, F⟩
theorem callable_mkD {k : Nat} {x : Str} {ps : List Str} {m : List W → GH → R W} {f : Addr} {fd : FuncData} {dvs : List V} {dws : List W} (hm : mg x = some (.ref f)) (kp : PySem.W.keepIn K (.ref f) = true) (b : ∃ ds, Vals dvs ds ∧ Binds K fd ps ds) (hw : ∀ ρ H, RelWs K ca ρ H dvs dws) (F : FnOk P w K mg base (L2N.CX P w) k f fd ps (spM K ca ps.length m)) :
    Callable P w K mg base ca k x ps dws m := by
  obtain ⟨ds, hv, b⟩ := b
  exact ⟨f, fd, dvs, ds, hm, kp, b, hv, hw, F⟩
/-- all parameters written, a def with defaults -/
theorem bindsFull {x qual : Str} {params : Arguments} {body : List Stmt} {scope : Scope} {dvs : List V} {f : Addr} {fd : FuncData} {ps : List Str} (F : FunD K x qual params body scope dvs [] f fd)
    (h : ∀ (dV kV doc pm : Value) (an : Option Addr) (cdv ct : Value) (us : List Value), us.length = ps.length → bindArgs (PySem.W.fnOf x qual params body scope dV kV doc pm an cdv ct) ⟨us, []⟩ = pure (ps.zip us)) : Binds K fd ps [] := by
  obtain ⟨oc, od, dV, kV, doc, pm, an, cdv, ct, osl, rfl, _, _, _, _⟩ := F.ex
  exact .all (h dV kV doc pm an cdv ct)
theorem konW_int {x : Str} {i : Int} {t : Tok} (h : mg x = some (.int i t)) : KonW K mg ca x (.int i) := ⟨_, .int i, h, ⟨t, rfl⟩, fun _ _ => .int i⟩
theorem konW_str {x z : Str} {t : Tok} (h : mg x = some (.str z t)) : KonW K mg ca x (.str z) := ⟨_, .str z, h, ⟨t, rfl⟩, fun _ _ => .str z⟩
end
/-- the end of a law -/
theorem law_end {l : PySem.W.OpenLaw} {k : Nat} {q : Program} {loose : List Str} {XP : (Str → Option Value) → Heap → Prop} {YP : World → Heap → Prop} {d : DefRec} {K : Params → PySem.W.Frag} {x : Str} {ca : Nat → Addr} {m : List W → GH → R W}
    (hn : l.most = some 63) (hdf : d.params.defaults = []) (hr : Room k callerA) (hY : ∀ (w : World) (h : Heap), YP w h → (K w.params).In h)
    (F : ∀ (w : World) (mg : Str → Option Value) (fa : Addr) (h : Heap), (K w.params).In h → h.Ns mainGlobals mg → mg d.name = some (.ref fa) →
      ∃ fd : FuncData, (∀ (s : Shared) (u : Value), BindsTo s fd ⟨[u], []⟩ [(x, u)]) ∧ ∀ base : Heap, (K w.params).In base → base.Ns mainGlobals mg → FnOk l.prog w (K w.params) mg base (L2N.CX l.prog w) k fa fd [x] (spM (K w.params) ca 1 m))
    (hm : ∀ ns : List Int, ns.length ≤ 63 → (∀ z ∈ ns, Builtin.Int.intBits z ≤ 1048576) → ∃ G, m [.frl (ns.map W.int)] [] = .ok (.bl true) G) :
    PySem.W.WalkO q loose XP YP l.row.toRowW d [] (fun f vs => PySem.call f vs) :=
  L2.walk_ofB (n := 63) (CX := fun w => L2N.CX l.prog w) (sp := fun w => spM (K w.params) ca 1 m) hn (by rw [sizeLine_eq]; decide) hdf hr hY F
    (fun w H a ns hl hb hO hS => by
      obtain ⟨G, e⟩ := hm ns hl hb
      refine ⟨rfl, [], [], [.frl (ns.map W.int)], ⟨rfl, List.nodup_nil, fun n a o h => by simp at h⟩, .cons (RelW.frl' (fz_script hO hS) (relWs_ints ns)) .nil, ?_⟩
      rw [e]
      exact fun ρ' H' _ _ v q => by cases q; rfl)
    fun w H s e s' h => by obtain ⟨_, _, _, _, _, _, _, _, _, _, _, _, z⟩ := h; exact z
theorem konW_intE {K : PySem.W.Frag} {mg : Str → Option Value} {ca : Nat → Addr} {x : Str} {i : Int} (h : ∃ t, mg x = some (.int i t)) : KonW K mg ca x (.int i) := by
  obtain ⟨t, h⟩ := h
  exact konW_int h
theorem konW_strE {K : PySem.W.Frag} {mg : Str → Option Value} {ca : Nat → Addr} {x z : Str} (h : ∃ t, mg x = some (.str z t)) : KonW K mg ca x (.str z) := by
  obtain ⟨t, h⟩ := h
  exact konW_str h
/-- the end of a law whose head tells facts -/
theorem law_endE {l : PySem.W.OpenLaw} {k hn' : Nat} {q : Program} {loose : List Str} {XP : (Str → Option Value) → Heap → Prop} {fa : List He.Fa} {fn : List He.DefD} {d : DefRec} {x : Str} {ca : PySem.W.Frag → Nat → Addr} {m : List W → GH → R W}
    (hn : l.most = some 63) (hdf : d.params.defaults = []) (hr : Room k callerA)
    (F : ∀ (w : World) (mg : Str → Option Value) (fv : Addr) (h : Heap) (K : PySem.W.Frag), K.In h → He.SaysD fa fn K → h.Ns mainGlobals mg → mg d.name = some (.ref fv) →
      ∃ fd : FuncData, (∀ (s : Shared) (u : Value), BindsTo s fd ⟨[u], []⟩ [(x, u)]) ∧ ∀ base : Heap, K.In base → base.Ns mainGlobals mg → FnOk l.prog w K mg base (L2N.CX l.prog w) k fv fd [x] (spM K (ca K) 1 m))
    (hm : ∀ ns : List Int, ns.length ≤ 63 → (∀ z ∈ ns, Builtin.Int.intBits z ≤ 1048576) → ∃ G, m [.frl (ns.map W.int)] [] = .ok (.bl true) G) :
    PySem.W.WalkO q loose XP (He.hookD hn' fa fn).says l.row.toRowW d [] (fun f vs => PySem.call f vs) := by
  refine Att.attach_callB hn hdf fun w s₀ s₁ mg mb fv o pm cd doc a vs ns G Y ho hd hcd hmg hobj hints hlen hbits hg => ?_
  obtain ⟨K, KX, c⟩ := Y
  obtain ⟨fd, hb, hF⟩ := F w mg fv _ K KX c G.T.g hmg
  refine law_call KX G.T.g G.T.b G.T.builtins G.T.nolimit hg hobj hints (Nat.le_trans hlen (by rw [sizeLine_eq]; decide)) hr hF hb (fun H hO hS => ?_) fun H e s' h => ?_
  · obtain ⟨G, e⟩ := hm ns hlen hbits
    refine ⟨rfl, [], [], [.frl (ns.map W.int)], ⟨rfl, List.nodup_nil, fun n a o h => by simp at h⟩, .cons (RelW.frl' (fz_script hO hS) (relWs_ints ns)) .nil, ?_⟩
    rw [e]
    exact fun ρ' H' _ _ v q => by cases q; rfl
  · obtain ⟨_, _, _, _, _, _, _, _, _, _, _, _, z⟩ := h
    exact z
/-! facts of the top, and more of them: functions of the written part -/
abbrev AlX : Type := He.AlD × Bool
def obsX (fa : List He.Fa) (fn : List He.DefD) (fb : List (PySem.W.Frag → Bool)) (K : PySem.W.Frag) : AlX := (He.obsD fa fn K, fb.all fun f => f K)
def obsXG (n : Nat) (fa : List He.Fa) (fn : List He.DefD) (fb : List (PySem.W.Frag → Bool)) (g : Addr → Option Obj) : AlX := obsX fa fn fb (He.frG g (He.asD g n))
def hookX (n : Nat) (fa : List He.Fa) (fn : List He.DefD) (fb : List (PySem.W.Frag → Bool)) : PySem.W.Hook where
  α := AlX
  obs := fun s => obsXG n fa fn fb s.heap.get?
  val := fun _ => (He.valD fn, true)
  says := fun _ h => ∃ K : PySem.W.Frag, K.In h ∧ He.SaysD fa fn K ∧ (fb.all fun f => f K) = true
  of := fun _ s e => ⟨He.frG s.heap.get? (He.asD s.heap.get? n), He.frG_in, congrArg (fun z : AlX => z.1) e, congrArg (fun z : AlX => z.2) e⟩
  keeps := fun _ _ _ ⟨K, hK, c⟩ k => ⟨K, PySem.W.Frag.In.keeps hK k, c⟩
theorem obsXG_eq {n : Nat} {fa : List He.Fa} {fn : List He.DefD} {fb : List (PySem.W.Frag → Bool)} {g : Addr → Option Obj} {s : Shared} (h : ∀ a, g a = s.heap.get? a) : obsXG n fa fn fb g = (hookX n fa fn fb).obs s := by
  have e : g = s.heap.get? := funext h
  rw [e] <;> rfl
theorem fact_of {fb : List (PySem.W.Frag → Bool)} {K : PySem.W.Frag} (c : (fb.all fun f => f K) = true) (i : Nat) {f : PySem.W.Frag → Bool} (h : fb[i]? = some f := by rfl) : f K = true :=
  List.all_eq_true.mp c f (List.mem_of_getElem? h)
def caN (names : List Str) (K : PySem.W.Frag) (n : Nat) : Addr := He.ga K (names.getD n "")
def excCB (K : PySem.W.Frag) (D : Addr) : Bool :=
  He.eqO (PySem.W.findIn K (.ref D) "__getattribute__") (some (some (.builtin "BaseException.__getattribute__"))) && (He.eqO (PySem.W.findIn K (.ref D) "__getattr__") (some none) && (decide (PySem.W.subIn K (.ref D) (.type "BaseException") = some true) && (PySem.W.hasDictIn K D &&
  (He.eqO (PySem.W.findIn K (.ref D) "__class__") (some (some (.builtin "object.__class__"))) && (He.eqO (PySem.W.specialIn K (.builtin "object.__class__") "__get__") (some (some (.builtin "getset_descriptor.__get__"))) && (decide (PySem.W.takesIn K (.builtin "object.__class__") = some true) && decide (PySem.W.mroIn K D (.type "object") = some true)))))))
theorem excCB_ok {K : PySem.W.Frag} {D : Addr} (h : excCB K D = true) : ExcC K D := by
  unfold excCB at h
  simp only [Bool.and_eq_true] at h
  obtain ⟨h1, h2, h3, h4, h5, h6, h7, h8⟩ := h
  exact ⟨He.eqO_ok h1, He.eqO_ok h2, of_decide_eq_true h3, h4, He.eqO_ok h5, He.eqO_ok h6, of_decide_eq_true h7, of_decide_eq_true h8⟩
def itF (names : List Str) (it : ITab) (K : PySem.W.Frag) : Bool := it.all fun e => decide (PySem.W.kitOne K (.ref (caN names K e.1)) (e.2.1.val (caN names K)) = some e.2.2) && excCB K (caN names K e.1)
def xtF (names : List Str) (xt : XTab) (K : PySem.W.Frag) : Bool := xt.all fun e => decide (PySem.W.exmOne K (.ref (caN names K e.1)) (.ref (caN names K e.2.1)) = some e.2.2)
theorem exs_of {names : List Str} {it : ITab} {xt : XTab} {K : PySem.W.Frag} (h1 : itF names it K = true) (h2 : xtF names xt K = true) : Exs K (caN names K) it xt := by
  refine ⟨fun e he => ?_, fun e he => ?_⟩
  · have z := List.all_eq_true.mp h1 e he
    rw [Bool.and_eq_true] at z
    exact ⟨of_decide_eq_true z.1, excCB_ok z.2⟩
  · exact of_decide_eq_true (List.all_eq_true.mp h2 e he)
theorem exW_of {names : List Str} {K : PySem.W.Frag} {h : Heap} {mg : Str → Option Value} {x : Str} {c : Nat} (X : K.In h) (G : h.Ns mainGlobals mg) (hx : names.getD c "" = x) (g : (He.Fa.glo x).ok K = true) (e : (He.Fa.exc x).ok K = true) : ExW K mg (caN names K) x c := by
  obtain ⟨h1, h2, h3, h4⟩ := He.exc_ok e
  subst hx
  exact ⟨He.glo_ok X G g, h1, h2, h3, h4⟩
theorem cls_glo {names : List Str} {K : PySem.W.Frag} {h : Heap} {mg : Str → Option Value} {x : Str} {c : Nat} (X : K.In h) (G : h.Ns mainGlobals mg) (hx : names.getD c "" = x) (g : (He.Fa.glo x).ok K = true) : mg x = some (.ref (caN names K c)) := by
  subst hx
  exact He.glo_ok X G g
/-! constants of the top that are tuples -/
mutual
def valF (K : PySem.W.Frag) : W → Value → Bool
  | .non, v => (match v with
    | .none => true
    | _ => false)
  | .bl b, v => (match v with
    | .bool c => b == c
    | _ => false)
  | .int i, v => (match v with
    | .int j _ => decide (i = j)
    | _ => false)
  | .str x, v => (match v with
    | .str y _ => decide (x = y)
    | _ => false)
  | .tup ws, v => (match v with
    | .ref a => (match K.lookup a with
      | some ⟨.type "tuple", _, .seq its _, _⟩ => decide (its.size ≤ sizeLine) && valsF K ws its.toList
      | _ => false)
    | _ => false)
  | _, _ => false
def valsF (K : PySem.W.Frag) : List W → List Value → Bool
  | [], us => us.isEmpty
  | w :: ws, us => (match us with
    | u :: us => valF K w u && valsF K ws us
    | [] => false)
end
mutual
theorem valF_ok {K : PySem.W.Frag} {ca : Nat → Addr} : ∀ (w : W) (v : Value), valF K w v = true → ∃ x, RelV x v ∧ ∀ ρ H, RelW K ca ρ H x w
  | .non, v, h => by
    unfold valF at h
    split at h
    · exact ⟨.non, rfl, fun _ _ => .non⟩
    · cases h
  | .bl b, v, h => by
    unfold valF at h
    split at h
    · rename_i c
      have e : b = c := by simpa using h
      subst e
      exact ⟨.bl b, rfl, fun _ _ => .bl b⟩
    · cases h
  | .int i, v, h => by
    unfold valF at h
    split at h
    · rename_i j t
      have e := of_decide_eq_true h
      subst e
      exact ⟨.int i, ⟨t, rfl⟩, fun _ _ => .int i⟩
    · cases h
  | .str x, v, h => by
    unfold valF at h
    split at h
    · rename_i y t
      have e := of_decide_eq_true h
      subst e
      exact ⟨.str x, ⟨t, rfl⟩, fun _ _ => .str x⟩
    · cases h
  | .tup ws, v, h => by
    unfold valF at h
    split at h
    · rename_i a
      split at h
      · rename_i d its n sl e
        rw [Bool.and_eq_true] at h
        obtain ⟨xs, hv, hw⟩ := valsF_ok (ca := ca) ws its.toList h.2
        exact ⟨.ref a, rfl, fun ρ H => RelW.tup' (.inr ⟨_, its, n, e, rfl, rfl, of_decide_eq_true h.1, hv⟩) (hw ρ H)⟩
      · cases h
    · cases h
  | .ty _, v, h => by
    unfold valF at h
    cases h
  | .cls _, v, h => by
    unfold valF at h
    cases h
  | .exn _ _, v, h => by
    unfold valF at h
    cases h
  | .loc _, v, h => by
    unfold valF at h
    cases h
  | .frl _, v, h => by
    unfold valF at h
    cases h
theorem valsF_ok {K : PySem.W.Frag} {ca : Nat → Addr} : ∀ (ws : List W) (us : List Value), valsF K ws us = true → ∃ xs, Vals xs us ∧ ∀ ρ H, RelWs K ca ρ H xs ws
  | [], us, h => by
    unfold valsF at h
    cases us with
    | nil => exact ⟨[], .nil, fun _ _ => .nil⟩
    | cons _ _ => cases h
  | w :: ws, us, h => by
    unfold valsF at h
    cases us with
    | nil => cases h
    | cons u us =>
      dsimp only at h
      rw [Bool.and_eq_true] at h
      obtain ⟨x, h1, h2⟩ := valF_ok (ca := ca) w u h.1
      obtain ⟨xs, h3, h4⟩ := valsF_ok (ca := ca) ws us h.2
      exact ⟨x :: xs, .cons h1 h3, fun ρ H => .cons (h2 ρ H) (h4 ρ H)⟩
end
def konF (x : Str) (w : W) (K : PySem.W.Frag) : Bool := match PySem.W.nsIn K mainGlobals x with
  | some (some v) => valF K w v
  | _ => false
theorem konW_F {K : PySem.W.Frag} {h : Heap} {mg : Str → Option Value} {ca : Nat → Addr} {x : Str} {w : W} (X : K.In h) (G : h.Ns mainGlobals mg) (c : konF x w K = true) : KonW K mg ca x w := by
  unfold konF at c
  split at c
  · rename_i v e
    obtain ⟨z, h1, h2⟩ := valF_ok (ca := ca) w v c
    exact ⟨v, z, PySem.W.mg_of X G e, h1, h2⟩
  · cases c
theorem law_endX {l : PySem.W.OpenLaw} {k hn' : Nat} {q : Program} {loose : List Str} {XP : (Str → Option Value) → Heap → Prop} {fa : List He.Fa} {fn : List He.DefD} {fb : List (PySem.W.Frag → Bool)} {d : DefRec} {x : Str} {ca : PySem.W.Frag → Nat → Addr} {m : List W → GH → R W}
    (hn : l.most = some 63) (hdf : d.params.defaults = []) (hr : Room k callerA)
    (F : ∀ (w : World) (mg : Str → Option Value) (fv : Addr) (h : Heap) (K : PySem.W.Frag), K.In h → He.SaysD fa fn K → (fb.all fun f => f K) = true → h.Ns mainGlobals mg → mg d.name = some (.ref fv) →
      ∃ fd : FuncData, (∀ (s : Shared) (u : Value), BindsTo s fd ⟨[u], []⟩ [(x, u)]) ∧ ∀ base : Heap, K.In base → base.Ns mainGlobals mg → FnOk l.prog w K mg base (L2N.CX l.prog w) k fv fd [x] (spM K (ca K) 1 m))
    (hm : ∀ ns : List Int, ns.length ≤ 63 → (∀ z ∈ ns, Builtin.Int.intBits z ≤ 1048576) → ∃ G, m [.frl (ns.map W.int)] [] = .ok (.bl true) G) :
    PySem.W.WalkO q loose XP (hookX hn' fa fn fb).says l.row.toRowW d [] (fun f vs => PySem.call f vs) := by
  refine Att.attach_callB hn hdf fun w s₀ s₁ mg mb fv o pm cd doc a vs ns G Y ho hd hcd hmg hobj hints hlen hbits hg => ?_
  obtain ⟨K, KX, c, cb⟩ := Y
  obtain ⟨fd, hb, hF⟩ := F w mg fv _ K KX c cb G.T.g hmg
  refine law_call KX G.T.g G.T.b G.T.builtins G.T.nolimit hg hobj hints (Nat.le_trans hlen (by rw [sizeLine_eq]; decide)) hr hF hb (fun H hO hS => ?_) fun H e s' h => ?_
  · obtain ⟨G, e⟩ := hm ns hlen hbits
    refine ⟨rfl, [], [], [.frl (ns.map W.int)], ⟨rfl, List.nodup_nil, fun n a o h => by simp at h⟩, .cons (RelW.frl' (fz_script hO hS) (relWs_ints ns)) .nil, ?_⟩
    rw [e]
    exact fun ρ' H' _ _ v q => by cases q; rfl
  · obtain ⟨_, _, _, _, _, _, _, _, _, _, _, _, z⟩ := h
    exact z
end Sy
set_option Elab.async false
set_option linter.all false
set_option maxRecDepth 100000
set_option maxHeartbeats 4000000
namespace Sy
open PySem PySem.Spec PyProof.Rows L2
/-! the law itself, where it shows data (turned from HandS.Ends to FnG) -/
theorem law_callG {P : Program} {w : World} {K : PySem.W.Frag} {mg mb : Str → Option Value} {k : Nat} {fa a : Addr} {fd : FuncData} {x : Str} {sp : Sp} {s₁ : Shared} {vs : List Value} {ns : List Int}
    (KX : K.In s₁.heap) (hns : s₁.heap.Ns mainGlobals mg) (hb : s₁.heap.Ns builtinsNs mb) (hbb : ∀ x : Str, x ≠ "__name__" → mb x = bootBuiltins x) (hlim : s₁.heap.NoLimit) (hg : s₁.gens = #[])
    (ha : s₁.heap.get? a = some { cls := .type "list", data := .seq vs.toArray }) (hi : IntsAre vs ns) (hl : ns.length ≤ sizeLine) (hr : Room k callerA)
    (F : ∀ base : Heap, K.In base → base.Ns mainGlobals mg → FnG P w K mg base k fa fd [x] sp) (hbind : ∀ (s : Shared) (u : Value), BindsTo s fd ⟨[u], []⟩ [(x, u)])
    (hsp : ∀ H : Hp, Only H → SqL K H a (ns.map V.int) → sp [.ref a] H (fun v _ => v = .bl true) fun _ _ _ => False)
    (hCX : ∀ H e s', L2N.CX P w [] H s₁ (fun _ _ _ => False) e s' → False) :
    codeAny (model P w) callerA (.call (.ref fa) ⟨[.ref a], []⟩) (fun r s' => r = .ok (.ret (.bool true)) ∧ OldK s₁.heap s'.heap ∧ s'.os = s₁.os ∧ AllBare s'.gens) s₁ := by
  have rv := vals_ints hi
  have lenV := hi.length
  -- from an abstract heap in which nothing but the script may be tracked
  have core : ∀ H : Hp, Only H → SqL K H a (ns.map V.int) → HOk P w H s₁.heap → (∀ b, H b ≠ none → b = a) → (H a ≠ none → K.lookup a = none) →
      codeAny (model P w) callerA (.call (.ref fa) ⟨[.ref a], []⟩) (fun r s' => r = .ok (.ret (.bool true)) ∧ OldK s₁.heap s'.heap ∧ s'.os = s₁.os ∧ AllBare s'.gens) s₁ := by
    intro H hO hS hok hA hK
    have base_of : ∀ {b : Addr} {o : Obj}, s₁.heap.get? b = some o → H b = none → (hidT s₁.heap H).get? b = some o := fun e n => hidT_get e n
    have noA : ∀ {b : Addr} {o : Obj} {es : Array DictEntry} {ep : Nat}, s₁.heap.get? b = some o → o.data = .dict es ep → H b = none := fun {b o es ep} e d => by
      cases q : H b with
      | none => rfl
      | some u =>
        have e' : b = a := hA b (by rw [q]; simp)
        subst e'
        rw [ha] at e; cases e
        have d' : Data.seq vs.toArray _ = Data.dict es ep := d
        cases d'
    have nsK : ∀ {b : Addr} {m : Str → Option Value}, s₁.heap.Ns b m → (hidT s₁.heap H).Ns b m := fun {b m} ⟨o, es, ep, e, d, r⟩ => ⟨o, es, ep, base_of e (noA e d), d, r⟩
    have hKb : K.In (hidT s₁.heap H) := fun b o e => base_of (KX b o e) (by
      cases q : H b with
      | none => rfl
      | some u =>
        have e' : b = a := hA b (by rw [q]; simp)
        subst e'
        rw [hK (by rw [q]; simp)] at e; cases e)
    have hM : Mod K mg (hidT s₁.heap H) := ⟨hKb, nsK hns, ⟨mb, nsK hb, hbb⟩, let ⟨mc, h1, h2⟩ := hlim; ⟨mc, nsK h1, h2⟩⟩
    have e0 : Env0 P w K mg (hidT s₁.heap H) callerA [] s₁ H := ⟨rfl, hM, fun b o e => of_hidT e, Nat.le_of_eq (hidT_size _ _), trivial, fun b hb => absurd (show b ∈ ([] : List Addr) from hb) (by simp), hok, .of_eq hg⟩
    refine codeAny_mono ((F _ hKb (nsK hns)).go callerA [] s₁ H [.ref a] [.ref a] _ _ hr rfl e0 (hbind s₁ (.ref a)) (.cons rfl .nil) (hsp H hO hS)) fun r s' h => ?_
    cases r with
    | error e => exact (hCX H e s' h).elim
    | ok fl =>
      cases fl with
      | next => exact False.elim h
      | brk => exact False.elim h
      | cont => exact False.elim h
      | ret u =>
        obtain ⟨v, H', os, bare, un, hok', r', q⟩ := h
        have q' : v = .bl true := q
        subst q'
        obtain rfl : u = Value.bool true := r'
        refine ⟨rfl, OldK.of_keep fun b o e => ?_, os, bare⟩
        cases q : H b with
        | none => exact un.keep b o e q (by intro z; exact absurd (show b ∈ ([] : List Addr) from z) (by simp)) (by simp)
        | some u =>
          rcases hO b with z | ⟨ob, xs, z⟩
          · rw [q] at z; cases z
          · have z2 := un.frzs b ob _ z
            obtain ⟨e1, _⟩ := hok b _ z
            obtain ⟨e2, _⟩ := hok' b _ z2
            rw [e] at e1; cases e1
            exact e2
  cases hk : K.lookup a with
  | some o =>
    -- the script is one of the module's own objects
    have e := KX a o hk
    rw [ha] at e
    cases e
    refine core (fun _ => none) (fun _ => .inl rfl) (.inr ⟨_, vs.toArray, _, hk, rfl, rfl, rfl, by rw [List.size_toArray, lenV]; exact hl, by simpa using rv⟩) (fun b u z => by have z' : (none : Option HO) = some u := z; cases z') (fun b z => absurd rfl z) fun z => absurd rfl z
  | none =>
    refine core (fun b => if b = a then some (.frz { cls := .type "list", data := .seq vs.toArray } (.lst (ns.map V.int))) else none) (fun b => ?_) (.inl (.inr ⟨{ cls := .type "list", data := .seq vs.toArray }, if_pos rfl⟩)) (fun b u z => ?_) (fun b z => ?_) fun _ => hk
    · by_cases hb : b = a
      · exact .inr ⟨_, _, if_pos hb⟩
      · exact .inl (if_neg hb)
    · by_cases hb : b = a
      · have z' := (if_pos hb).symm.trans z
        cases z'
        subst hb
        exact ⟨ha, by rw [List.length_map]; exact hl, vs, _, rv, ha⟩
      · have z' := (if_neg hb).symm.trans z
        cases z'
    · by_cases hb : b = a
      · exact hb
      · exact absurd (if_neg hb) z
theorem law_endG {l : PySem.W.OpenLaw} {k hn' : Nat} {q : Program} {loose : List Str} {XP : (Str → Option Value) → Heap → Prop} {fa : List He.Fa} {fn : List He.DefD} {fb : List (PySem.W.Frag → Bool)} {d : DefRec} {x : Str} {ca : PySem.W.Frag → Nat → Addr} {m : List W → GH → R W}
    (hn : l.most = some 63) (hdf : d.params.defaults = []) (hr : Room k callerA)
    (F : ∀ (w : World) (mg : Str → Option Value) (fv : Addr) (h : Heap) (K : PySem.W.Frag), K.In h → He.SaysD fa fn K → (fb.all fun f => f K) = true → h.Ns mainGlobals mg → mg d.name = some (.ref fv) →
      ∃ fd : FuncData, (∀ (s : Shared) (u : Value), BindsTo s fd ⟨[u], []⟩ [(x, u)]) ∧ ∀ base : Heap, K.In base → base.Ns mainGlobals mg → FnG l.prog w K mg base k fv fd [x] (spM K (ca K) 1 m))
    (hm : ∀ ns : List Int, ns.length ≤ 63 → (∀ z ∈ ns, Builtin.Int.intBits z ≤ 1048576) → ∃ G, m [.frl (ns.map W.int)] [] = .ok (.bl true) G) :
    PySem.W.WalkO q loose XP (hookX hn' fa fn fb).says l.row.toRowW d [] (fun f vs => PySem.call f vs) := by
  refine Att.attach_callB hn hdf fun w s₀ s₁ mg mb fv o pm cd doc a vs ns G Y ho hd hcd hmg hobj hints hlen hbits hg => ?_
  obtain ⟨K, KX, c, cb⟩ := Y
  obtain ⟨fd, hb, hF⟩ := F w mg fv _ K KX c cb G.T.g hmg
  refine law_callG KX G.T.g G.T.b G.T.builtins G.T.nolimit hg hobj hints (Nat.le_trans hlen (by rw [sizeLine_eq]; decide)) hr hF hb (fun H hO hS => ?_) fun H e s' h => ?_
  · obtain ⟨G, e⟩ := hm ns hlen hbits
    refine ⟨rfl, [], [], [.frl (ns.map W.int)], ⟨rfl, List.nodup_nil, fun n a o h => by simp at h⟩, .cons (RelW.frl' (fz_script hO hS) (relWs_ints ns)) .nil, ?_⟩
    rw [e]
    exact fun ρ' H' _ _ v q => by cases q; rfl
  · obtain ⟨_, _, _, _, _, _, _, _, _, _, _, _, z⟩ := h
    exact z
end Sy
set_option Elab.async false
set_option linter.all false
set_option maxRecDepth 100000
set_option maxHeartbeats 4000000
namespace Sy
open PySem PySem.Spec PyProof.Rows L2
/-! the end of a law whose defs make thunks -/
abbrev emO : Obj := { cls := .none, data := .fields #[] }
open LamX in
theorem law_callT {P : Program} {w : World} {K : PySem.W.Frag} {mg mb : Str → Option Value} {CX : CXT} {k : Nat} {fa a : Addr} {tl : List (Addr × Addr)} {fd : FuncData} {x : Str} {sp : Sp} {sA : Shared} {vs : List Value} {ns : List Int}
    (KXA : K.In sA.heap) (hnsA : sA.heap.Ns mainGlobals mg) (hbb0 : sA.heap.Ns builtinsNs mb) (hbb : ∀ x : Str, x ≠ "__name__" → mb x = bootBuiltins x) (hlimA : sA.heap.NoLimit) (hgA : sA.gens = #[])
    (tEm : ∀ p ∈ tl, sA.heap.get? p.2 = some emO) (tNk : ∀ p ∈ tl, K.lookup p.2 = none) (CA : ∀ p ∈ tl, PySem.W.CodeHd sA.heap p.1 p.2)
    (hbmA : ∃ (bm0 : Addr) (ob0 : Obj), mg "__builtins__" = some (.ref bm0) ∧ bm0 ≠ builtinsNs ∧ sA.heap.get? bm0 = some ob0 ∧ ob0.cls = .type "module" ∧ ob0.dict = some builtinsNs ∧ ob0.data = .plain)
    (haA : sA.heap.get? a = some { cls := .type "list", data := .seq vs.toArray }) (hiA : IntsAre vs ns) (hlA : ns.length ≤ sizeLine) (hrA : Room k callerA)
    (FA : ∀ base : Heap, K.In base → base.Ns mainGlobals mg → (∀ p ∈ tl, TabB base mg p.1 p.2) → FnOk P w K mg base CX k fa fd [x] sp) (hbindA : ∀ (s : Shared) (u : Value), BindsTo s fd ⟨[u], []⟩ [(x, u)])
    (hspA : ∀ H : Hp, (∀ p ∈ tl, H p.2 = some (.tbl #[])) → (∀ b, H b = none ∨ b ∈ tl.map (·.2) ∨ ∃ o xs, H b = some (.frz o (.lst xs))) → SqL K H a (ns.map V.int) → sp [.ref a] H (fun v _ => v = .bl true) fun _ _ _ => False)
    (hCXA : ∀ H e s', CX [] H sA (fun _ _ _ => False) e s' → False) :
    codeAny (model P w) callerA (.call (.ref fa) ⟨[.ref a], []⟩) (fun r s' => r = .ok (.ret (.bool true)) ∧ OldK sA.heap s'.heap ∧ s'.os = sA.os ∧ AllBare s'.gens) sA := by
  have vv := vals_ints hiA
  have lnV := hiA.length
  have emp : ∀ b : Addr, b ∈ tl.map (·.2) → sA.heap.get? b = some emO := fun b hbb0 => by
    obtain ⟨p, hpp, e⟩ := List.mem_map.mp hbb0
    rw [← e]
    exact tEm p hpp
  have notA : a ∉ tl.map (·.2) := fun zz => by
    have qq := emp a zz
    rw [haA] at qq
    have zz' : Data.seq vs.toArray _ = Data.fields #[] := congrArg Obj.data (Option.some.inj qq)
    cases zz'
  have inT : ∀ p ∈ tl, p.2 ∈ tl.map (·.2) := fun p hpp => List.mem_map.mpr ⟨p, hpp, rfl⟩
  have heart : ∀ H : Hp, (∀ p ∈ tl, H p.2 = some (.tbl #[])) → (∀ b, H b = none ∨ b ∈ tl.map (·.2) ∨ ∃ o xs, H b = some (.frz o (.lst xs))) → SqL K H a (ns.map V.int) → HOk P w H sA.heap → (∀ b, H b ≠ none → b = a ∨ b ∈ tl.map (·.2)) → (H a ≠ none → K.lookup a = none) →
      codeAny (model P w) callerA (.call (.ref fa) ⟨[.ref a], []⟩) (fun r s' => r = .ok (.ret (.bool true)) ∧ OldK sA.heap s'.heap ∧ s'.os = sA.os ∧ AllBare s'.gens) sA := by
    intro H tbH onl sqH okH onlyA notK
    have old0 : ∀ {b : Addr} {o : Obj}, sA.heap.get? b = some o → H b = none → (hidT sA.heap H).get? b = some o := fun e n => hidT_get e n
    have plain0 : ∀ {b : Addr} {o : Obj}, sA.heap.get? b = some o → (∀ vs n, o.data ≠ .seq vs n) → o.data ≠ .fields #[] → H b = none := fun {b o} e ha1 ha2 => by
      cases qq : H b with
      | none => rfl
      | some u =>
        rcases onlyA b (by rw [qq]; simp) with e' | e'
        · rw [e', haA] at e
          cases e
          exact (ha1 _ _ rfl).elim
        · rw [emp b e'] at e
          cases e
          exact (ha2 rfl).elim
    have dct0 : ∀ {b : Addr} {o : Obj} {es : Array DictEntry} {ep : Nat}, sA.heap.get? b = some o → o.data = .dict es ep → H b = none := fun {b o es ep} e d => by
      refine plain0 e (fun vs n zz => ?_) fun zz => ?_
      · rw [d] at zz
        cases zz
      · rw [d] at zz
        cases zz
    have nsH : ∀ {b : Addr} {m : Str → Option Value}, sA.heap.Ns b m → (hidT sA.heap H).Ns b m := fun {b m} ⟨o, es, ep, e, d, r⟩ => ⟨o, es, ep, old0 e (dct0 e d), d, r⟩
    have kB : K.In (hidT sA.heap H) := fun b o e => old0 (KXA b o e) (by
      cases qq : H b with
      | none => rfl
      | some u =>
        rcases onlyA b (by rw [qq]; simp) with e' | e'
        · rw [e'] at e qq
          rw [notK (by rw [qq]; simp)] at e
          cases e
        · obtain ⟨p, hpp, ep⟩ := List.mem_map.mp e'
          rw [← ep, tNk p hpp] at e
          cases e)
    have mdl : L2.Mod K mg (hidT sA.heap H) := ⟨kB, nsH hnsA, ⟨mb, nsH hbb0, hbb⟩, let ⟨mc, ha1, ha2⟩ := hlimA; ⟨mc, nsH ha1, ha2⟩⟩
    have tbB : ∀ p ∈ tl, TabB (hidT sA.heap H) mg p.1 p.2 := fun p hpp => by
      have hTp := tEm p hpp
      refine ⟨?_, ?_, fun zz => ?_⟩
      · obtain ⟨o, us, file, tf, flags, tg, inF, text, tt, ea, r1, r2, r3, r4, r5, r6, r7, r8, hne⟩ := CA p hpp
        refine ⟨o, us, file, tf, flags, tg, inF, text, tt, old0 ea (plain0 ea (fun vs n zz => ?_) fun zz => ?_), r1, r2, r3, r4, r5, r6, r7, r8, hne⟩
        · rw [r2] at zz
          cases zz
        · rw [r2] at zz
          cases zz
          simp at r3
      · obtain ⟨bm0, ob0, b1, b2, b3, b4, b5, b6⟩ := hbmA
        have nG : bm0 ≠ mainGlobals := fun qq => by
          obtain ⟨o, es, ep, e, hd, _⟩ := hnsA
          rw [qq, e] at b3
          cases b3
          rw [hd] at b6
          cases b6
        have nP : bm0 ≠ p.2 := fun qq => by
          rw [qq, hTp] at b3
          cases b3
          cases b6
        refine ⟨bm0, ob0, b1, b2, nG, nP, old0 b3 (plain0 b3 (fun vs n zz => ?_) fun zz => ?_), b4, b5, b6⟩
        · rw [b6] at zz
          cases zz
        · rw [b6] at zz
          cases zz
      · obtain ⟨o, es, ep, e, hd, _⟩ := hnsA
        rw [zz, hTp] at e
        cases e
        cases hd
    have en0 : Env0 P w K mg (hidT sA.heap H) callerA [] sA H := ⟨rfl, mdl, fun b o e => of_hidT e, Nat.le_of_eq (hidT_size _ _), trivial, fun b hbb0 => absurd (show b ∈ ([] : List Addr) from hbb0) (by simp), okH, .of_eq hgA⟩
    refine codeAny_mono ((FA _ kB (nsH hnsA) tbB).run callerA [] sA H ⟨[.ref a], []⟩ [.ref a] [.ref a] _ _ hrA en0 (hbindA sA (.ref a)) (.cons rfl .nil) (hspA H tbH onl sqH)) fun r s' h => ?_
    cases r with
    | error e => exact (hCXA H e s' h).elim
    | ok fl =>
      cases fl with
      | next => exact (h : False).elim
      | brk => exact (h : False).elim
      | cont => exact (h : False).elim
      | ret u =>
        obtain ⟨v, H', oss, bar, una, okH', r', qq⟩ := h
        have q' : v = .bl true := qq
        subst q'
        obtain rfl : u = (Value.bool true) := r'
        have held0 : ∀ b o, b ∉ tl.map (·.2) → sA.heap.get? b = some o → s'.heap.get? b = some o := fun b o nb e => by
          cases qq : H b with
          | none => exact una.keep b o e qq (by intro zz; exact absurd (show b ∈ ([] : List Addr) from zz) (by simp)) (by simp)
          | some u =>
            rcases onl b with zz | zz | ⟨ob0, xs, zz⟩
            · rw [qq] at zz; cases zz
            · exact absurd zz nb
            · have zz2 := una.frzs b ob0 _ zz
              obtain ⟨ea, _⟩ := okH b _ zz
              obtain ⟨eb, _⟩ := okH' b _ zz2
              rw [e] at ea; cases ea
              exact eb
        have more0 : ∀ p ∈ tl, ∃ more : Array Value, s'.heap.get? p.2 = some { cls := .none, data := .fields more } := fun p hpp => by
          obtain ⟨more, zz⟩ := una.tbls p.2 #[] (tbH p hpp)
          exact ⟨_, okH' p.2 _ zz⟩
        refine ⟨rfl, ⟨fun b o e => ?_, fun b o e => ?_⟩, oss, bar⟩
        · by_cases hbb0 : b ∈ tl.map (·.2)
          · obtain ⟨p, hpp, ep⟩ := List.mem_map.mp hbb0
            obtain ⟨more, hm⟩ := more0 p hpp
            rw [← ep] at e ⊢
            rw [tEm p hpp] at e
            cases e
            exact .inr (.inl ⟨((CA p hpp).tab (tEm p hpp)).isCodeTable, rfl, #[], more, rfl, by rw [Array.empty_append]; exact hm⟩)
          · exact .inl (held0 b o hbb0 e)
        · by_cases hbb0 : b ∈ tl.map (·.2)
          · obtain ⟨p, hpp, ep⟩ := List.mem_map.mp hbb0
            obtain ⟨more, hm⟩ := more0 p hpp
            rw [← ep]
            exact ⟨_, hm⟩
          · exact ⟨o, held0 b o hbb0 e⟩
  cases hk : K.lookup a with
  | some o =>
    have e := KXA a o hk
    rw [haA] at e
    cases e
    refine heart (fun b => if b ∈ tl.map (·.2) then some (.tbl #[]) else none) (fun p hpp => if_pos (inT p hpp)) (fun b => ?_) (.inr ⟨_, vs.toArray, _, hk, rfl, rfl, rfl, by rw [List.size_toArray, lnV]; exact hlA, by simpa using vv⟩) (fun b u zz => ?_) (fun b zz => ?_) fun zz => absurd (show (if a ∈ tl.map (·.2) then some (HO.tbl #[]) else none) = none from if_neg notA) zz
    · by_cases hbb0 : b ∈ tl.map (·.2)
      · exact .inr (.inl hbb0)
      · exact .inl (if_neg hbb0)
    · by_cases hbb0 : b ∈ tl.map (·.2)
      · have zz' := (if_pos hbb0).symm.trans zz
        cases zz'
        exact emp b hbb0
      · have zz' := (if_neg hbb0).symm.trans zz
        cases zz'
    · by_cases hbb0 : b ∈ tl.map (·.2)
      · exact .inr hbb0
      · exact absurd (if_neg hbb0) zz
  | none =>
    refine heart (fun b => if b = a then some (.frz { cls := .type "list", data := .seq vs.toArray } (.lst (ns.map V.int))) else if b ∈ tl.map (·.2) then some (.tbl #[]) else none) (fun p hpp => (if_neg (show ¬ p.2 = a from fun zz => notA (by rw [← zz]; exact inT p hpp))).trans (if_pos (inT p hpp))) (fun b => ?_)
      (.inl (.inr ⟨{ cls := .type "list", data := .seq vs.toArray }, if_pos rfl⟩)) (fun b u zz => ?_) (fun b zz => ?_) fun _ => hk
    · by_cases hbb0 : b = a
      · exact .inr (.inr ⟨_, _, if_pos hbb0⟩)
      · by_cases hb2 : b ∈ tl.map (·.2)
        · exact Or.inr (Or.inl hb2)
        · exact .inl ((if_neg hbb0).trans (if_neg hb2))
    · by_cases hbb0 : b = a
      · have zz' := (if_pos hbb0).symm.trans zz
        cases zz'
        rw [hbb0]
        exact ⟨haA, by rw [List.length_map]; exact hlA, vs, _, vv, haA⟩
      · have zz1 := (if_neg hbb0).symm.trans zz
        by_cases hb2 : b ∈ tl.map (·.2)
        · have zz' := (if_pos hb2).symm.trans zz1
          cases zz'
          exact emp b hb2
        · have zz' := (if_neg hb2).symm.trans zz1
          cases zz'
    · by_cases hbb0 : b = a
      · exact .inl hbb0
      · by_cases hb2 : b ∈ tl.map (·.2)
        · exact .inr hb2
        · exact absurd ((if_neg hbb0).trans (if_neg hb2)) zz

/-- what is told of the tables -/
structure TabsOk (tf : List He.Defn) (K : PySem.W.Frag) (h : Heap) : Prop where
  hd : ∀ p ∈ tf, PySem.W.codeHdIn K (He.cT K p).1 (He.cT K p).2 = true
  out : ∀ p ∈ tf, K.lookup (He.cT K p).2 = none
  empty : ∀ p ∈ tf, h.get? (He.cT K p).2 = some emO
  nd : (tf.map fun p => (He.cT K p).2).Nodup
def obsXT (n : Nat) (fa : List He.Fa) (fn : List He.DefD) (fb : List (PySem.W.Frag → Bool)) (tf : List He.Defn) (g : Addr → Option Obj) : AlX :=
  (He.obsD fa fn (He.frT g (He.asD g n)), (fb.all fun f => f (He.frT g (He.asD g n))) && (He.tabsB g tf (He.frT g (He.asD g n)) && decide ((tf.map fun p => (He.cT (He.frT g (He.asD g n)) p).2).Nodup)))
theorem tabsOk_of {n : Nat} {tf : List He.Defn} {h : Heap} (e : He.tabsB h.get? tf (He.frT h.get? (He.asD h.get? n)) = true) (nd : (tf.map fun p => (He.cT (He.frT h.get? (He.asD h.get? n)) p).2).Nodup) : TabsOk tf (He.frT h.get? (He.asD h.get? n)) h := by
  have key : ∀ p ∈ tf, PySem.W.codeHdIn (He.frT h.get? (He.asD h.get? n)) (He.cT (He.frT h.get? (He.asD h.get? n)) p).1 (He.cT (He.frT h.get? (He.asD h.get? n)) p).2 = true ∧ ∃ o, h.get? (He.cT (He.frT h.get? (He.asD h.get? n)) p).2 = some o ∧ He.emptyTab o = true := by
    intro p hp
    have z := List.all_eq_true.mp e p hp
    rw [Bool.and_eq_true] at z
    refine ⟨z.1, ?_⟩
    have z2 := z.2
    cases q : h.get? (He.cT (He.frT h.get? (He.asD h.get? n)) p).2 with
    | none => rw [q] at z2; cases z2
    | some o => rw [q] at z2; exact ⟨o, rfl, z2⟩
  refine ⟨fun p hp => (key p hp).1, fun p hp => ?_, fun p hp => ?_, nd⟩
  · obtain ⟨_, o, q, z⟩ := key p hp
    exact He.frT_none q z
  · obtain ⟨_, o, q, z⟩ := key p hp
    rw [q, He.emptyTab_eq z]
def hookT (n : Nat) (fa : List He.Fa) (fn : List He.DefD) (fb : List (PySem.W.Frag → Bool)) (tf : List He.Defn) : PySem.W.Hook where
  α := AlX
  obs := fun s => obsXT n fa fn fb tf s.heap.get?
  val := fun _ => (He.valD fn, true)
  says := fun _ h => ∃ K : PySem.W.Frag, K.In h ∧ He.SaysD fa fn K ∧ (fb.all fun f => f K) = true ∧ TabsOk tf K h
  of := fun _ s e => by
    have e2 : ((fb.all fun f => f (He.frT s.heap.get? (He.asD s.heap.get? n))) && (He.tabsB s.heap.get? tf (He.frT s.heap.get? (He.asD s.heap.get? n)) && decide ((tf.map fun p => (He.cT (He.frT s.heap.get? (He.asD s.heap.get? n)) p).2).Nodup))) = true := congrArg (fun z : AlX => z.2) e
    rw [Bool.and_eq_true, Bool.and_eq_true] at e2
    exact ⟨He.frT s.heap.get? (He.asD s.heap.get? n), He.frT_in, congrArg (fun z : AlX => z.1) e, e2.1, tabsOk_of e2.2.1 (of_decide_eq_true e2.2.2)⟩
  keeps := fun _ _ _ ⟨K, hK, c, d, t⟩ k => ⟨K, PySem.W.Frag.In.keeps hK k, c, d, t.hd, t.out, fun p hp => k _ _ (t.empty p hp), t.nd⟩
theorem obsXT_eq {n : Nat} {fa : List He.Fa} {fn : List He.DefD} {fb : List (PySem.W.Frag → Bool)} {tf : List He.Defn} {g : Addr → Option Obj} {s : Shared} (h : ∀ a, g a = s.heap.get? a) : obsXT n fa fn fb tf g = (hookT n fa fn fb tf).obs s := by
  have e : g = s.heap.get? := funext h
  rw [e] <;> rfl
/-- classes by their names, tables behind 1000 -/
def caT (names : List Str) (tf : List He.Defn) (K : PySem.W.Frag) (n : Nat) : Addr := if n < 1000 then He.ga K (names.getD n "") else (He.cT K (tf.getD (n - 1000) ("", none))).2
/-- the tables as they stand at first: the k-th one tells objects of the name q -/
def tabsG (qs : List Str) : GH := qs.mapIdx fun k q => .tb k q
theorem fz_of {K : PySem.W.Frag} {H : Hp} {a : Addr} {vs : List V} {tl : List (Addr × Addr)} (hT : ∀ p ∈ tl, H p.2 = some (.tbl #[])) (hO : ∀ b, H b = none ∨ b ∈ tl.map (·.2) ∨ ∃ o xs, H b = some (.frz o (.lst xs))) (h : SqL K H a vs) : FzL K H a vs := by
  rcases h with h | h
  · rcases h with h | h
    · rcases hO a with e | e | ⟨o, xs, e⟩
      · rw [h] at e; cases e
      · obtain ⟨p, hp, z⟩ := List.mem_map.mp e
        have := hT p hp
        rw [z, h] at this
        cases this
      · rw [h] at e; cases e
    · exact .inl h
  · exact .inr h
theorem law_endT {l : PySem.W.OpenLaw} {k hn' : Nat} {q : Program} {loose : List Str} {XP : (Str → Option Value) → Heap → Prop} {fa : List He.Fa} {fn : List He.DefD} {fb : List (PySem.W.Frag → Bool)} {tf : List He.Defn} {qs : List Str} {d : DefRec} {x : Str} {names : List Str} {m : List W → GH → R W}
    (hn : l.most = some 63) (hdf : d.params.defaults = []) (hr : Room k callerA) (hq : qs.length = tf.length)
    (F : ∀ (w : World) (mg : Str → Option Value) (fv : Addr) (h : Heap) (K : PySem.W.Frag), K.In h → He.SaysD fa fn K → (fb.all fun f => f K) = true → TabsOk tf K h → h.Ns mainGlobals mg → mg d.name = some (.ref fv) →
      ∃ fd : FuncData, (∀ (s : Shared) (u : Value), BindsTo s fd ⟨[u], []⟩ [(x, u)]) ∧ ∀ base : Heap, K.In base → base.Ns mainGlobals mg → (∀ p ∈ tf, LamX.TabB base mg (He.cT K p).1 (He.cT K p).2) → FnOk l.prog w K mg base (L2N.CX l.prog w) k fv fd [x] (spM K (caT names tf K) 1 m))
    (hm : ∀ ns : List Int, ns.length ≤ 63 → (∀ z ∈ ns, Builtin.Int.intBits z ≤ 1048576) → ∃ G, m [.frl (ns.map W.int)] (tabsG qs) = .ok (.bl true) G) :
    PySem.W.WalkO q loose XP (hookT hn' fa fn fb tf).says l.row.toRowW d [] (fun f vs => PySem.call f vs) := by
  refine Att.attach_callB hn hdf fun w s₀ s₁ mg mb fv o pm cd doc a vs ns G Y ho hd hcd hmg hobj hints hlen hbits hg => ?_
  obtain ⟨K, KX, c, cb, tb⟩ := Y
  obtain ⟨fd, hb, hF⟩ := F w mg fv _ K KX c cb tb G.T.g hmg
  have mem : ∀ {p : Addr × Addr}, p ∈ tf.map (He.cT K) → ∃ e ∈ tf, He.cT K e = p := fun h => List.mem_map.mp h
  refine law_callT (tl := tf.map (He.cT K)) KX G.T.g G.T.b G.T.builtins G.T.nolimit hg (fun p hp => ?_) (fun p hp => ?_) (fun p hp => ?_) G.T.bmain hobj hints (Nat.le_trans hlen (by rw [sizeLine_eq]; decide)) hr
    (fun base h1 h2 h3 => hF base h1 h2 fun p hp => h3 _ (List.mem_map_of_mem hp)) hb (fun H hT hO hS => ?_) fun H e s' h => ?_
  · obtain ⟨e, he, rfl⟩ := mem hp
    exact tb.empty e he
  · obtain ⟨e, he, rfl⟩ := mem hp
    exact tb.out e he
  · obtain ⟨e, he, rfl⟩ := mem hp
    exact PySem.W.codeHd_of_K KX (tb.hd e he)
  · obtain ⟨G, e⟩ := hm ns hlen hbits
    have at_ : ∀ (n : Nat) p, tf[n]? = some p → (tabsG qs)[n]? = some (.tb n (qs.getD n "")) := fun n p hp => by
      have h1 : n < qs.length := by rw [hq]; exact (List.getElem?_eq_some_iff.mp hp).1
      unfold tabsG
      rw [List.getElem?_mapIdx, List.getElem?_eq_getElem h1, List.getD_eq_getElem?_getD, List.getElem?_eq_getElem h1]
      rfl
    refine ⟨rfl, tf.map fun p => (He.cT K p).2, tabsG qs, [.frl (ns.map W.int)], ⟨by simp [tabsG, hq], tb.nd, fun n a o h1 h2 => ?_⟩, .cons (RelW.frl' (fz_of hT hO hS) (relWs_ints ns)) .nil, ?_⟩
    · rw [List.getElem?_map] at h1
      cases e1 : tf[n]? with
      | none => rw [e1] at h1; cases h1
      | some p =>
        rw [e1] at h1
        cases h1
        rw [at_ n p e1] at h2
        cases h2
        have hg2 : tf.getD (1000 + n - 1000) ("", none) = p := by rw [Nat.add_sub_cancel_left, List.getD_eq_getElem?_getD, e1]; rfl
        refine ⟨?_, LamX.TabS.nil (hT _ (List.mem_map_of_mem (List.mem_of_getElem? e1)))⟩
        unfold caT
        rw [if_neg (by omega), hg2]
    · rw [e]
      exact fun ρ' H' _ _ v q => by cases q; rfl
  · obtain ⟨_, _, _, _, _, _, _, _, _, _, _, _, z⟩ := h
    exact z
/-- the code object of a def -/
theorem code_at {K : PySem.W.Frag} {x qual : Str} {params : Arguments} {body : List Stmt} {scope : Scope} {dvs : List V} {kws : List (Str × V)} {p : He.Defn} {fd : FuncData} (F : FunD K x qual params body scope dvs kws (He.fAd K p) fd) :
    ∀ (oc : Value) (od : Option Addr) (fd' : FuncData) (osl : Array (Option Value)), K.lookup (He.fAd K p) = some ⟨oc, od, .func fd', osl⟩ → fd'.code = .ref (He.codeOf K p) := by
  intro oc od fd' osl l
  obtain ⟨oc2, od2, dV, kV, doc, pm, an, cdv, ct, osl2, rfl, lk, hcd, _, _⟩ := F.ex
  rw [lk] at l
  cases l
  obtain ⟨c, rfl⟩ := He.codeIn_ref hcd
  rw [He.codeOf_eq lk rfl]
theorem caT_low {names : List Str} {tf : List He.Defn} {K : PySem.W.Frag} {c : Nat} (h : c < 1000) : caT names tf K c = caN names K c := if_pos h
theorem clsT {names : List Str} {tf : List He.Defn} {K : PySem.W.Frag} {mg : Str → Option Value} {x : Str} {c : Nat} (h : mg x = some (.ref (caN names K c))) (hc : c < 1000) : mg x = some (.ref (caT names tf K c)) := by
  rw [caT_low hc]
  exact h
theorem exWT {names : List Str} {tf : List He.Defn} {K : PySem.W.Frag} {mg : Str → Option Value} {x : Str} {c : Nat} (h : ExW K mg (caN names K) x c) (hc : c < 1000) : ExW K mg (caT names tf K) x c := by
  obtain ⟨a1, a2, a3, a4, a5⟩ := h
  refine ⟨?_, ?_, ?_, ?_, ?_⟩ <;> rw [caT_low hc] <;> assumption
def lowCK : CK → Bool
  | .own j => decide (j < 1000)
  | .ty _ => true
theorem exsT {names : List Str} {tf : List He.Defn} {K : PySem.W.Frag} {it : ITab} {xt : XTab} (h : Exs K (caN names K) it xt) (hi : (it.all (fun e => decide (e.1 < 1000) && lowCK e.2.1) && xt.all fun e => decide (e.1 < 1000) && decide (e.2.1 < 1000)) = true) : Exs K (caT names tf K) it xt := by
  rw [Bool.and_eq_true, List.all_eq_true, List.all_eq_true] at hi
  refine ⟨fun e he => ?_, fun e he => ?_⟩
  · have z := hi.1 e he
    rw [Bool.and_eq_true] at z
    have z1 := of_decide_eq_true z.1
    have hv : e.2.1.val (caT names tf K) = e.2.1.val (caN names K) := by
      have z2 := z.2
      cases e3 : e.2.1 with
      | own j =>
        rw [e3] at z2
        exact congrArg Value.ref (caT_low (of_decide_eq_true z2))
      | ty n => rfl
    rw [hv, caT_low z1]
    exact h.isi e he
  · have z := hi.2 e he
    rw [Bool.and_eq_true] at z
    rw [caT_low (of_decide_eq_true z.1), caT_low (of_decide_eq_true z.2)]
    exact h.exm e he
end Sy
set_option Elab.async false
set_option linter.all false
set_option maxRecDepth 100000
set_option maxHeartbeats 4000000
namespace Sy
open PySem PySem.Spec PyProof.Rows L2

/-! the computations as equations -/
def asO : Option (Option W) → GH → R T
  | some (some w), G => .ok (.val w) G
  | _, _ => .bad
@[simp] theorem asO_ok (w : W) (G : GH) : asO (some (some w)) G = .ok (.val w) G := (rfl)
section
variable {τ : Sl} {G : GH}
@[simp] theorem mVar_at (i : Nat) : mVar i τ G = asO τ[i]? G := by
  unfold mVar asO
  cases τ[i]? with
  | none => rfl
  | some o => cases o <;> rfl
@[simp] theorem mC_at (w : W) : mC w τ G = .ok (.val w) G := (rfl)
@[simp] theorem mBin_at (f : T → T → GH → R T) (a b : M T) : mBin f a b τ G = (a τ G).bind fun x G1 => (b τ G1).bind fun y G2 => f x y G2 := (rfl)
@[simp] theorem mUn_at (f : T → GH → R T) (a : M T) : mUn f a τ G = (a τ G).bind f := (rfl)
@[simp] theorem force_val (w : W) : force (.val w) G = .ok w G := (rfl)
@[simp] theorem force_tmp (ws : List W) : force (.tmp ws) G = .ok (.loc G.length) (G ++ [.lst ws]) := (rfl)
@[simp] theorem mF_at (a : M T) : mF a τ G = (a τ G).bind force := (rfl)
@[simp] theorem mNil_at : mNil τ G = .ok [] G := (rfl)
@[simp] theorem mCons_at (a : M T) (r : M (List W)) : mCons a r τ G = ((a τ G).bind force).bind fun w G1 => (r τ G1).bind fun ws G2 => .ok (w :: ws) G2 := (rfl)
@[simp] theorem mLst_at (a : M (List W)) : mLst a τ G = (a τ G).bind fun ws G1 => if ws.length ≤ 16777216 then .ok (.tmp ws) G1 else .bad := (rfl)
@[simp] theorem mTup_at (a : M (List W)) : mTup a τ G = (a τ G).bind fun ws G1 => if ws.length ≤ 16777216 then .ok (.val (.tup ws)) G1 else .bad := (rfl)
@[simp] theorem asB_bl (b : Bool) : asB (.val (.bl b)) G = .ok b G := (rfl)
@[simp] theorem mB_at (a : M T) : mB a τ G = (a τ G).bind asB := (rfl)
@[simp] theorem mOfB_at (a : M Bool) : mOfB a τ G = (a τ G).bind fun b G1 => .ok (.val (.bl b)) G1 := (rfl)
@[simp] theorem mAnd_at (a b : M Bool) : mAnd a b τ G = (a τ G).bind fun x G1 => if x then b τ G1 else .ok false G1 := (rfl)
@[simp] theorem mOr_at (a b : M Bool) : mOr a b τ G = (a τ G).bind fun x G1 => if x then .ok true G1 else b τ G1 := (rfl)
@[simp] theorem mNot_at (a : M Bool) : mNot a τ G = (a τ G).bind fun x G1 => .ok (!x) G1 := (rfl)
@[simp] theorem mIf_at (c : M Bool) (a b : M T) : mIf c a b τ G = (c τ G).bind fun x G1 => if x then a τ G1 else b τ G1 := (rfl)
@[simp] theorem mAndV_at (a b : M T) : mAndV a b τ G = (a τ G).bind fun x G1 => (asB x G1).bind fun c G2 => if c then b τ G2 else .ok (.val (.bl false)) G2 := (rfl)
@[simp] theorem mOrV_at (a b : M T) : mOrV a b τ G = (a τ G).bind fun x G1 => (asB x G1).bind fun c G2 => if c then .ok (.val (.bl true)) G2 else b τ G2 := (rfl)
@[simp] theorem mNotV_at (a : M T) : mNotV a τ G = (a τ G).bind fun x G1 => (asB x G1).bind fun c G2 => .ok (.val (.bl (!c))) G2 := (rfl)
@[simp] theorem mCall_at (m : List W → GH → R W) (dws : List W) (ma : M (List W)) : mCall m dws ma τ G = (ma τ G).bind fun ws G1 => (m (ws ++ dws) G1).bind fun w G2 => .ok (.val w) G2 := (rfl)
@[simp] theorem mNilT_at : mNilT τ G = .ok [] G := (rfl)
@[simp] theorem mConsT_at (a : M T) (r : M (List T)) : mConsT a r τ G = (a τ G).bind fun t G1 => (r τ G1).bind fun ts G2 => .ok (t :: ts) G2 := (rfl)
@[simp] theorem mBi_at (f : List T → GH → R T) (ma : M (List T)) : mBi f ma τ G = (ma τ G).bind f := (rfl)
@[simp] theorem mMt_at (ty : T → GH → Bool) (f : T → List T → GH → R T) (mo : M T) (ma : M (List T)) : mMt ty f mo ma τ G = (mo τ G).bind fun x G1 => if ty x G1 then (ma τ G1).bind fun ts G2 => f x ts G2 else .bad := (rfl)
@[simp] theorem mMtF_at (ty : T → GH → Bool) (f : T → List W → GH → R T) (mo : M T) (ma : M (List W)) : mMtF ty f mo ma τ G = (mo τ G).bind fun x G1 => if ty x G1 then (ma τ G1).bind fun ts G2 => f x ts G2 else .bad := (rfl)
@[simp] theorem mTru_at (m : M T) : mTru m τ G = (m τ G).bind truT := (rfl)
@[simp] theorem mChain_at (f g : T → T → GH → R T) (a b c : M T) : mChain f g a b c τ G = (a τ G).bind fun x G1 => (b τ G1).bind fun y G2 => (f x y G2).bind fun z G3 => (asB z G3).bind fun k G4 => if k then (c τ G4).bind fun u G5 => g y u G5 else .ok (.val (.bl false)) G4 := (rfl)
@[simp] theorem mNoP_at : mNoP τ G = .ok none G := (rfl)
def asI : T → GH → R (Option Int)
  | .val (.int i), G => .ok (some i) G
  | _, _ => .bad
@[simp] theorem asI_int (i : Int) : asI (.val (.int i)) G = .ok (some i) G := (rfl)
@[simp] theorem mP_at (m : M T) : mP m τ G = (m τ G).bind asI := by
  unfold mP
  congr 1
  funext t G1
  cases t with
  | tmp ws => rfl
  | val w => cases w <;> rfl
@[simp] theorem mSl_at (m : M T) (l u : M (Option Int)) : mSl m l u τ G = (m τ G).bind fun t G1 => (l τ G1).bind fun lo G2 => (u τ G2).bind fun hi G3 => fSl t lo hi G3 := (rfl)
@[simp] theorem sNext_at : sNext τ G = .nx τ G := (rfl)
@[simp] theorem sSeq_at (a b : MS) : sSeq a b τ G = (a τ G).andThen b := (rfl)
@[simp] theorem sDrop_at (m : M T) : sDrop m τ G = (m τ G).toS τ fun _ G1 => .nx τ G1 := (rfl)
@[simp] theorem sRet_at (m : M T) : sRet m τ G = (mF m τ G).toS τ fun w G1 => .rt w G1 := (rfl)
@[simp] theorem sRetN_at : sRetN τ G = .rt .non G := (rfl)
@[simp] theorem sBrk_at : sBrk τ G = .bk τ G := (rfl)
@[simp] theorem sCt_at : sCt τ G = .ct τ G := (rfl)
@[simp] theorem sIf_at (c : M Bool) (a b : MS) : sIf c a b τ G = (c τ G).toS τ fun x G1 => if x then a τ G1 else b τ G1 := (rfl)
@[simp] theorem sSet_at (i : Nat) (m : M T) : sSet i m τ G = (mF m τ G).toS τ fun w G1 => .nx (τ.set i (some w)) G1 := (rfl)
@[simp] theorem sAug_at (i : Nat) (f : T → T → GH → R T) (m : M T) : sAug i f m τ G = (mVar i τ G).toS τ fun x G0 => (m τ G0).toS τ fun y G1 => ((f x y G1).bind force).toS τ fun w G2 => .nx (τ.set i (some w)) G2 := (rfl)
theorem sFor_at (m : M (List W × Src)) (g : MG) (b : MS) : sFor m g b τ G = (m τ G).toS τ fun p G1 => forL p.2 g b p.1 τ G1 := (rfl)
@[simp] theorem gN_at (i : Nat) (w : W) : gN i w τ = some (τ.set i (some w)) := (rfl)
@[simp] theorem gE_at : gE [] τ = some τ := (rfl)
@[simp] theorem gC_at (g : MG) (gs : List W → Sl → Option Sl) (w : W) (ws : List W) : gC g gs (w :: ws) τ = (g w τ).bind (gs ws) := (rfl)
@[simp] theorem gT_at (gs : List W → Sl → Option Sl) (ws : List W) : gT gs (.tup ws) τ = gs ws τ := (rfl)
def asG : Option Sl → GH → RS
  | some τ, G => .nx τ G
  | none, _ => .bad
@[simp] theorem asG_some : asG (some τ) G = .nx τ G := (rfl)
@[simp] theorem sAsg_at (g : MG) (m : M T) : sAsg g m τ G = (mF m τ G).toS τ fun w G1 => asG (g w τ) G1 := by
  unfold sAsg
  congr 1
  funext w G1
  unfold asG
  cases g w τ <;> rfl
def asTwo (τ : Sl) (i j : Nat) : List W → GH → RS
  | [w, u], G => .nx ((τ.set i (some w)).set j (some u)) G
  | _, _ => .bad
@[simp] theorem asTwo_at (i j : Nat) (w u : W) : asTwo τ i j [w, u] G = .nx ((τ.set i (some w)).set j (some u)) G := (rfl)
@[simp] theorem sPar_at (i j : Nat) (m : M (List W)) : sPar i j m τ G = (m τ G).toS τ (asTwo τ i j) := by
  unfold sPar
  congr 1
  funext ws G1
  rcases ws with _ | ⟨a, _ | ⟨b, _ | ⟨c, r⟩⟩⟩ <;> rfl
theorem miR_at (m : M (List W)) : miR m τ G = (m τ G).bind iterR := (rfl)
theorem miR2_at (m : M (List W)) : miR2 m τ G = (m τ G).bind iterR2 := (rfl)
theorem miA_at (m : M T) : miA m τ G = (m τ G).bind iterA := (rfl)
theorem miB_at (f : List T → GH → R (List W × Src)) (m : M (List T)) : miB f m τ G = (m τ G).bind f := (rfl)
def fin : RS → R W
  | .nx _ G' => .ok .non G'
  | .rt w G' => .ok w G'
  | .ex c fs _ G' => .ex c fs G'
  | _ => .bad
@[simp] theorem fin_nx : fin (.nx τ G) = .ok .non G := (rfl)
@[simp] theorem fin_rt (w : W) : fin (.rt w G) = .ok w G := (rfl)
@[simp] theorem fin_ex (c : Nat) (fs : List (Str × W)) : fin (.ex c fs τ G) = .ex c fs G := (rfl)
theorem mDef_fin (n : Nat) (b : MS) (ws : List W) : mDef n b ws G = fin (b (ws.map some ++ List.replicate (n - ws.length) none) G) := by
  unfold mDef fin
  cases b (ws.map some ++ List.replicate (n - ws.length) none) G <;> rfl
/-- a def at its arguments: what its body does from the slots -/
theorem mDef_at {n : Nat} {b : MS} {ws : List W} (τ : Sl) {r : RS} (hτ : ws.map some ++ List.replicate (n - ws.length) none = τ) (h : b τ G = r) : mDef n b ws G = fin r := by
  rw [mDef_fin, hτ, h]
theorem mDef_ok {n : Nat} {b : MS} {ws : List W} (τ : Sl) {w : W} {G' : GH} (h : b τ G = .rt w G') (hτ : ws.map some ++ List.replicate (n - ws.length) none = τ := by rfl) : mDef n b ws G = .ok w G' := by
  rw [mDef_fin, hτ, h]; rfl
end

/-! operations -/
section
variable {G : GH}
@[simp] theorem fAdd_int (i j : Int) : fAdd (.val (.int i)) (.val (.int j)) G = .ok (.val (.int (i + j))) G := (rfl)
@[simp] theorem fAugAdd_int (i j : Int) : fAugAdd (.val (.int i)) (.val (.int j)) G = .ok (.val (.int (i + j))) G := (rfl)
@[simp] theorem fSub_int (i j : Int) : fSub (.val (.int i)) (.val (.int j)) G = .ok (.val (.int (i - j))) G := (rfl)
@[simp] theorem fAnd_int (i j : Int) : fAnd (.val (.int i)) (.val (.int j)) G = .ok (.val (.int (Builtin.bitAnd i j))) G := (rfl)
@[simp] theorem fOr_int (i j : Int) : fOr (.val (.int i)) (.val (.int j)) G = .ok (.val (.int (Builtin.bitOr i j))) G := (rfl)
@[simp] theorem fXor_int (i j : Int) : fXor (.val (.int i)) (.val (.int j)) G = .ok (.val (.int (Builtin.bitXor i j))) G := (rfl)
@[simp] theorem fLt_int (i j : Int) : fLt (.val (.int i)) (.val (.int j)) G = .ok (.val (.bl (decide (i < j)))) G := (rfl)
@[simp] theorem fLe_int (i j : Int) : fLe (.val (.int i)) (.val (.int j)) G = .ok (.val (.bl (decide (i ≤ j)))) G := (rfl)
@[simp] theorem fGt_int (i j : Int) : fGt (.val (.int i)) (.val (.int j)) G = .ok (.val (.bl (decide (j < i)))) G := (rfl)
@[simp] theorem fGe_int (i j : Int) : fGe (.val (.int i)) (.val (.int j)) G = .ok (.val (.bl (decide (j ≤ i)))) G := (rfl)
@[simp] theorem fNeg_int (i : Int) : fNeg (.val (.int i)) G = .ok (.val (.int (-i))) G := (rfl)
theorem fI2_ok {c : Int → Int → Bool} {g : Int → Int → Int} {i j : Int} (h : c i j = true) : fI2 c g (.val (.int i)) (.val (.int j)) G = .ok (.val (.int (g i j))) G := by
  unfold fI2
  dsimp only
  rw [if_pos h]
theorem fMul_int {i j : Int} (h : mulOk i j = true) : fMul (.val (.int i)) (.val (.int j)) G = .ok (.val (.int (i * j))) G := by
  unfold fMul
  dsimp only
  rw [if_pos h]
theorem mulOk_of {i j : Int} {a b : Nat} (ha : Builtin.Int.intBits i ≤ a) (hb : Builtin.Int.intBits j ≤ b) (h : a + b ≤ 134217728) : mulOk i j = true := by
  unfold mulOk
  exact decide_eq_true (by omega)
theorem fFdiv_int {i j : Int} (h : 0 < j) (hl : j.natAbs.log2 < 9000) : fFdiv (.val (.int i)) (.val (.int j)) G = .ok (.val (.int (i / j))) G :=
  fI2_ok (by simp only [decide_eq_true h, decide_eq_true hl, Bool.and_self])
theorem fMod_int {i j : Int} (h : 0 < j) : fMod (.val (.int i)) (.val (.int j)) G = .ok (.val (.int (i % j))) G := fI2_ok (decide_eq_true h)
theorem fShr_int {i j : Int} (h : 0 ≤ j) : fShr (.val (.int i)) (.val (.int j)) G = .ok (.val (.int (i / 2 ^ j.toNat))) G := fI2_ok (decide_eq_true h)
theorem fShl_int {i j : Int} (h : 0 ≤ j) (hl : (Builtin.Int.intBits i : Int) + j ≤ 2 ^ 27) : fShl (.val (.int i)) (.val (.int j)) G = .ok (.val (.int (i * 2 ^ j.toNat))) G :=
  fI2_ok (by simp only [decide_eq_true h, decide_eq_true hl, Bool.and_self])
theorem fEq_data {x y : T} {d e : PyData} (hx : toDT G x = some d) (hy : toDT G y = some e) : fEq x y G = .ok (.val (.bl (PyData.eqv d e))) G := by
  unfold fEq; rw [hx, hy]
theorem fNe_data {x y : T} {d e : PyData} (hx : toDT G x = some d) (hy : toDT G y = some e) : fNe x y G = .ok (.val (.bl (!PyData.eqv d e))) G := by
  unfold fNe; rw [hx, hy]
@[simp] theorem fEq_int (i j : Int) : fEq (.val (.int i)) (.val (.int j)) G = .ok (.val (.bl (decide (i = j)))) G := fEq_data (d := .int i) (e := .int j) rfl rfl
@[simp] theorem fNe_int (i j : Int) : fNe (.val (.int i)) (.val (.int j)) G = .ok (.val (.bl (!decide (i = j)))) G := fNe_data (d := .int i) (e := .int j) rfl rfl
@[simp] theorem truT_bl (b : Bool) : truT (.val (.bl b)) G = .ok b G := (rfl)
@[simp] theorem truT_int (i : Int) : truT (.val (.int i)) G = .ok (i != 0) G := (rfl)
@[simp] theorem truT_non : truT (.val .non) G = .ok false G := (rfl)
@[simp] theorem truT_tmp (ws : List W) : truT (.tmp ws) G = .ok (!ws.isEmpty) G := (rfl)
@[simp] theorem truT_tup (ws : List W) : truT (.val (.tup ws)) G = .ok (!ws.isEmpty) G := (rfl)
@[simp] theorem iterA_tup (ws : List W) : iterA (.val (.tup ws)) G = .ok (ws, []) G := (rfl)
@[simp] theorem iterA_tmp (ws : List W) : iterA (.tmp ws) G = .ok (ws, []) G := (rfl)
@[simp] theorem iterA_frl (ws : List W) : iterA (.val (.frl ws)) G = .ok (ws, []) G := (rfl)
theorem iterA_loc {n : Nat} {ws : List W} (h : rdw G (.loc n) = some ws) : iterA (.val (.loc n)) G = .ok (ws, [(n, ws)]) G := by
  unfold iterA
  dsimp only
  rw [h]
theorem in62_of {i : Int} (h1 : -4611686018427387904 ≤ i) (h2 : i < 4611686018427387904) : in62 i = true := by
  unfold in62
  rw [show (2 : Int) ^ 62 = 4611686018427387904 from rfl, decide_eq_true h1, decide_eq_true h2]; rfl
theorem iterR_ok {j : Int} (h : in62 j = true) : iterR [.int j] G = .ok (rangeW 0 j.toNat, []) G := by
  unfold iterR
  dsimp only
  rw [if_pos h]
theorem iterR2_ok {i j : Int} (h : in62 i = true) (h2 : in62 j = true) : iterR2 [.int i, .int j] G = .ok (rangeW i (j - i).toNat, []) G := by
  unfold iterR2
  dsimp only
  rw [h, h2]; rfl
@[simp] theorem rangeW_len (lo : Int) (n : Nat) : (rangeW lo n).length = n := by simp [rangeW]
theorem rangeW_get {lo : Int} {n i : Nat} {w : W} (h : (rangeW lo n)[i]? = some w) : i < n ∧ w = .int (lo + i) := by
  have hl : i < n := by
    have := (List.getElem?_eq_some_iff.mp h).1
    simpa using this
  refine ⟨hl, ?_⟩
  unfold rangeW at h
  rw [List.getElem?_map, List.getElem?_range hl] at h
  simpa using h.symm
/-! what stands on top of a heap -/
@[simp] theorem get_top0 (xs : List GO) : (G ++ xs)[G.length]? = xs[0]? := by
  rw [List.getElem?_append_right (Nat.le_refl _), Nat.sub_self]
@[simp] theorem get_topk (xs : List GO) (k : Nat) : (G ++ xs)[G.length + k]? = xs[k]? := by
  rw [List.getElem?_append_right (Nat.le_add_right _ _), Nat.add_sub_cancel_left]
@[simp] theorem set_top0 (xs : List GO) (o : GO) : (G ++ xs).set G.length o = G ++ xs.set 0 o := by
  rw [List.set_append_right _ _ (Nat.le_refl _), Nat.sub_self]
@[simp] theorem set_topk (xs : List GO) (k : Nat) (o : GO) : (G ++ xs).set (G.length + k) o = G ++ xs.set k o := by
  rw [List.set_append_right _ _ (Nat.le_add_right _ _), Nat.add_sub_cancel_left]
@[simp] theorem rd_lst (ws : List W) : GO.rd (.lst ws) = some ws := (rfl)
@[simp] theorem wr_lst (ws : List W) : GO.wr (.lst ws) = some ws := (rfl)
@[simp] theorem rdw_loc (n : Nat) : rdw G (.loc n) = G[n]?.bind GO.rd := (rfl)
@[simp] theorem rdw_frl (ws : List W) : rdw G (.frl ws) = some ws := (rfl)
@[simp] theorem wrw_loc (n : Nat) : wrw G (.loc n) = G[n]?.bind GO.wr := (rfl)
@[simp] theorem rdl_tmp (ws : List W) : rdl (.tmp ws) G = some ws := (rfl)
@[simp] theorem rdl_val (w : W) : rdl (.val w) G = rdw G w := (rfl)
@[simp] theorem wrl_tmp (ws : List W) : wrl (.tmp ws) G = some ws := (rfl)
@[simp] theorem wrl_val (w : W) : wrl (.val w) G = wrw G w := (rfl)
@[simp] theorem lstAt_loc (n : Nat) : lstAt (.val (.loc n)) G = (G[n]?.bind GO.wr).map fun ws => (n, ws) := (rfl)
theorem fApp_ok {n : Nat} {us : List W} {w : W} (h : G[n]? = some (.lst us)) (hl : us.length < 16777216) : fApp (.val (.loc n)) [w] G = .ok (.val .non) (G.set n (.lst (us ++ [w]))) := by
  unfold fApp
  simp [h, hl]
theorem isLst_ok {n : Nat} {us : List W} (h : G[n]? = some (.lst us)) : isLst (.val (.loc n)) G = true := by
  unfold isLst
  simp [h]
end

/-! loops -/
@[simp] theorem still_nil' {G : GH} : still [] G = true := still_nil
theorem still_of {n : Nat} {ws : List W} {G : GH} (h : G[n]? = some (.lst ws)) : still [(n, ws)] G = true := still_iff.mpr fun p hp => by
  simp at hp; subst hp; simp [h]
section
variable {src : Src} {g : MG} {b : MS}
/-- what a turn of a loop leaves -/
def Turn (N : Sl → GH → Prop) (E : RS → Prop) : RS → Prop
  | .nx τ G => N τ G
  | .ct τ G => N τ G
  | .bk τ G => E (.nx τ G)
  | .rt w G => E (.rt w G)
  | .ex c fs τ G => E (.ex c fs τ G)
  | .bad => False
@[simp] theorem turn_nx {N : Sl → GH → Prop} {E : RS → Prop} {τ : Sl} {G : GH} : Turn N E (.nx τ G) = N τ G := (rfl)
@[simp] theorem turn_ct {N : Sl → GH → Prop} {E : RS → Prop} {τ : Sl} {G : GH} : Turn N E (.ct τ G) = N τ G := (rfl)
@[simp] theorem turn_bk {N : Sl → GH → Prop} {E : RS → Prop} {τ : Sl} {G : GH} : Turn N E (.bk τ G) = E (.nx τ G) := (rfl)
@[simp] theorem turn_rt {N : Sl → GH → Prop} {E : RS → Prop} {w : W} {G : GH} : Turn N E (.rt w G) = E (.rt w G) := (rfl)
@[simp] theorem turn_ex {N : Sl → GH → Prop} {E : RS → Prop} {c : Nat} {fs : List (Str × W)} {τ : Sl} {G : GH} : Turn N E (.ex c fs τ G) = E (.ex c fs τ G) := (rfl)
theorem forL_run (I : Nat → Sl → GH → Prop) (E : RS → Prop) {ws : List W} {τ : Sl} {G : GH} (h0 : I 0 τ G)
    (hs : ∀ i w τ G, ws[i]? = some w → I i τ G → still src G = true ∧ ∃ τ1, g w τ = some τ1 ∧ Turn (I (i + 1)) E (b τ1 G))
    (he : ∀ τ G, I ws.length τ G → still src G = true ∧ E (.nx τ G)) : E (forL src g b ws τ G) := by
  have key : ∀ (n i : Nat) (τ : Sl) (G : GH), n = ws.length - i → i ≤ ws.length → I i τ G → E (forL src g b (ws.drop i) τ G) := by
    intro n
    induction n with
    | zero =>
      intro i τ G hn hi h
      have e : i = ws.length := by omega
      subst e
      obtain ⟨h1, h2⟩ := he τ G h
      rw [List.drop_length]
      unfold forL
      rw [h1]; exact h2
    | succ n ih =>
      intro i τ G hn hi h
      have hlt : i < ws.length := by omega
      rw [List.drop_eq_getElem_cons hlt]
      obtain ⟨h1, τ1, h2, h3⟩ := hs i _ τ G (List.getElem?_eq_getElem hlt) h
      unfold forL
      rw [h1, h2]
      simp only [if_true]
      cases e : b τ1 G with
      | nx τ2 G2 => rw [e] at h3; exact ih (i + 1) τ2 G2 (by omega) hlt h3
      | ct τ2 G2 => rw [e] at h3; exact ih (i + 1) τ2 G2 (by omega) hlt h3
      | bk τ2 G2 => rw [e] at h3; exact h3
      | rt w G2 => rw [e] at h3; exact h3
      | ex c fs τ2 G2 => rw [e] at h3; exact h3
      | bad => rw [e] at h3; exact h3.elim
  have := key ws.length 0 τ G rfl (Nat.zero_le _) h0
  rwa [List.drop_zero] at this
theorem whileF_run (I : Nat → Sl → GH → Prop) (E : RS → Prop) {c : M Bool} {m n : Nat} {τ : Sl} {G : GH} (h0 : I m τ G) (hn : m < n)
    (hs : ∀ m τ G, I m τ G → ∃ x G1, c τ G = .ok x G1 ∧ if x then Turn (fun τ G => ∃ m', m' < m ∧ I m' τ G) E (b τ G1) else E (.nx τ G1)) : E (whileF c b n τ G) := by
  induction n generalizing m τ G with
  | zero => omega
  | succ n ih =>
    obtain ⟨x, G1, h1, h2⟩ := hs m τ G h0
    unfold whileF
    rw [h1]
    cases x with
    | false => simpa using h2
    | true =>
      simp only [R.toS_ok, if_true] at h2 ⊢
      cases e : b τ G1 with
      | nx τ2 G2 => rw [e] at h2; obtain ⟨m', hm, h3⟩ := h2; exact ih h3 (by omega)
      | ct τ2 G2 => rw [e] at h2; obtain ⟨m', hm, h3⟩ := h2; exact ih h3 (by omega)
      | bk τ2 G2 => rw [e] at h2; exact h2
      | rt w G2 => rw [e] at h2; exact h2
      | ex c fs τ2 G2 => rw [e] at h2; exact h2
      | bad => rw [e] at h2; exact h2.elim
/-- a comprehension that leaves the heap as it is -/
theorem compF_map {c : M Bool} {e : M T} {τ : Sl} {G : GH} {ws : List W} (f : W → W) (hs : still src G = true)
    (h : ∀ w ∈ ws, ∃ τ1, g w τ = some τ1 ∧ c τ1 G = .ok true G ∧ (e τ1 G).bind force = .ok (f w) G) : compF src g c e τ ws G = .ok (ws.map f) G := by
  induction ws with
  | nil => unfold compF; rw [hs]; rfl
  | cons w ws ih =>
    obtain ⟨τ1, h1, h2, h3⟩ := h w (List.mem_cons_self ..)
    unfold compF
    rw [hs, h1]
    have h3' : mF e τ1 G = .ok (f w) G := h3
    simp only [if_true, h2, R.noEx, R.bind_ok, h3', ih fun u hu => h u (List.mem_cons_of_mem _ hu)]
    rfl
theorem mComp_at (mi : M (List W × Src)) (c : M Bool) (e : M T) (vs : List Nat) (τ : Sl) (G : GH) : mComp mi g c e vs τ G = (mi τ G).bind fun p G1 =>
  if p.1.length ≤ 16777216 then (compF p.2 g c e (wipeS τ vs) p.1 G1).bind fun ys G2 => .ok (.tmp ys) G2 else .bad := (rfl)
@[simp] theorem mYes_at (τ : Sl) (G : GH) : mYes τ G = .ok true G := (rfl)
end
end Sy
set_option Elab.async false
set_option linter.all false
set_option maxRecDepth 100000
set_option maxHeartbeats 4000000
namespace Sy
open PySem PySem.Spec PyProof.Rows L2
/-! like data -/
theorem eqvA_cons (x y : PyData) (xs ys : List PyData) : PyData.eqvAll (x :: xs) (y :: ys) = (PyData.eqv x y && PyData.eqvAll xs ys) := by rw [PyData.eqvAll]
mutual
def noDict : PyData → Bool
  | .dict _ => false
  | .list xs => noDictA xs
  | .tuple xs => noDictA xs
  | _ => true
def noDictA : List PyData → Bool
  | [] => true
  | x :: xs => noDict x && noDictA xs
end
mutual
theorem eqv_self : ∀ d : PyData, noDict d = true → PyData.eqv d d = true
  | .none, _ => by rw [PyData.eqv]
  | .bool b, _ => by rw [PyData.eqv]; simp
  | .int b, _ => by rw [PyData.eqv]; simp
  | .str b, _ => by rw [PyData.eqv]; simp
  | .list xs, h => by rw [PyData.eqv]; exact eqvA_self xs (by simpa [noDict] using h)
  | .tuple xs, h => by rw [PyData.eqv]; exact eqvA_self xs (by simpa [noDict] using h)
  | .dict xs, h => by simp [noDict] at h
theorem eqvA_self : ∀ xs : List PyData, noDictA xs = true → PyData.eqvAll xs xs = true
  | [], _ => by rw [PyData.eqvAll]
  | x :: xs, h => by
    simp [noDictA] at h
    rw [eqvA_cons, eqv_self x h.1, eqvA_self xs h.2]; rfl
end
/-! no truths, no dicts -/
mutual
def plainD : PyData → Bool
  | .dict _ => false
  | .bool _ => false
  | .list xs => plainA xs
  | .tuple xs => plainA xs
  | _ => true
def plainA : List PyData → Bool
  | [] => true
  | x :: xs => plainD x && plainA xs
end
mutual
theorem eqv_eq : ∀ d e : PyData, plainD d = true → plainD e = true → PyData.eqv d e = true → d = e
  | .none, .none, _, _, _ => rfl
  | .int a, .int b, _, _, h => by rw [PyData.eqv] at h; simp at h; rw [h]
  | .str a, .str b, _, _, h => by rw [PyData.eqv] at h; simp at h; rw [h]
  | .list xs, .list ys, h1, h2, h => by rw [PyData.eqv] at h; rw [eqvA_eq xs ys (by simpa [plainD] using h1) (by simpa [plainD] using h2) h]
  | .tuple xs, .tuple ys, h1, h2, h => by rw [PyData.eqv] at h; rw [eqvA_eq xs ys (by simpa [plainD] using h1) (by simpa [plainD] using h2) h]
  | .bool _, _, h, _, _ => by simp [plainD] at h
  | .dict _, _, h, _, _ => by simp [plainD] at h
  | .none, .bool _, _, h, _ | .int _, .bool _, _, h, _ | .str _, .bool _, _, h, _ | .list _, .bool _, _, h, _ | .tuple _, .bool _, _, h, _ => by simp [plainD] at h
  | .none, .dict _, _, h, _ | .int _, .dict _, _, h, _ | .str _, .dict _, _, h, _ | .list _, .dict _, _, h, _ | .tuple _, .dict _, _, h, _ => by simp [plainD] at h
  | .none, .int _, _, _, h | .none, .str _, _, _, h | .none, .list _, _, _, h | .none, .tuple _, _, _, h => by simp [PyData.eqv] at h
  | .int _, .none, _, _, h | .int _, .str _, _, _, h | .int _, .list _, _, _, h | .int _, .tuple _, _, _, h => by simp [PyData.eqv] at h
  | .str _, .none, _, _, h | .str _, .int _, _, _, h | .str _, .list _, _, _, h | .str _, .tuple _, _, _, h => by simp [PyData.eqv] at h
  | .list _, .none, _, _, h | .list _, .int _, _, _, h | .list _, .str _, _, _, h | .list _, .tuple _, _, _, h => by simp [PyData.eqv] at h
  | .tuple _, .none, _, _, h | .tuple _, .int _, _, _, h | .tuple _, .str _, _, _, h | .tuple _, .list _, _, _, h => by simp [PyData.eqv] at h
theorem eqvA_eq : ∀ xs ys : List PyData, plainA xs = true → plainA ys = true → PyData.eqvAll xs ys = true → xs = ys
  | [], [], _, _, _ => rfl
  | [], _ :: _, _, _, h => by simp [PyData.eqvAll] at h
  | _ :: _, [], _, _, h => by simp [PyData.eqvAll] at h
  | x :: xs, y :: ys, h1, h2, h => by
    rw [eqvA_cons, Bool.and_eq_true] at h
    simp [plainA] at h1 h2
    rw [eqv_eq x y h1.1 h2.1 h.1, eqvA_eq xs ys h1.2 h2.2 h.2]
end
mutual
theorem noDict_plain : ∀ d : PyData, plainD d = true → noDict d = true
  | .none, _ => rfl
  | .bool _, _ => rfl
  | .int _, _ => rfl
  | .str _, _ => rfl
  | .list xs, h => by rw [noDict]; exact noDictA_plain xs (by simpa [plainD] using h)
  | .tuple xs, h => by rw [noDict]; exact noDictA_plain xs (by simpa [plainD] using h)
  | .dict _, h => by simp [plainD] at h
theorem noDictA_plain : ∀ xs : List PyData, plainA xs = true → noDictA xs = true
  | [], _ => rfl
  | x :: xs, h => by
    simp [plainA] at h
    rw [noDictA, noDict_plain x h.1, noDictA_plain xs h.2]; rfl
end
open Classical in
theorem eqv_dec {d e : PyData} (h1 : plainD d = true) (h2 : plainD e = true) : PyData.eqv d e = decide (d = e) := by
  by_cases h : d = e
  · subst h
    rw [eqv_self d (noDict_plain d h1)]
    simp
  · cases z : PyData.eqv d e with
    | true => exact absurd (eqv_eq d e h1 h2 z) h
    | false => simp [h]
theorem plainA_ints (is : List Int) : plainA (is.map PyData.int) = true := by
  induction is with
  | nil => rfl
  | cons i is ih => rw [List.map_cons, plainA, ih]; rfl
theorem ints_inj {is js : List Int} : is.map PyData.int = js.map PyData.int ↔ is = js := by
  constructor
  · intro h
    induction is generalizing js with
    | nil => cases js <;> simp at h ⊢
    | cons i is ih =>
      cases js with
      | nil => simp at h
      | cons j js => simp at h; rw [h.1, ih (by simpa using h.2)]
  · intro h; rw [h]
theorem eqv_ints (is js : List Int) : PyData.eqv (.list (is.map .int)) (.list (js.map .int)) = decide (is = js) := by
  rw [eqv_dec (by rw [plainD]; exact plainA_ints is) (by rw [plainD]; exact plainA_ints js)]
  simp [ints_inj]
/-! data of values -/
theorem mapO_ints (n : Nat) (G : GH) (is : List Int) : mapO (toD (n + 1) G) (is.map W.int) = some (is.map PyData.int) := by
  induction is with
  | nil => rfl
  | cons i is ih => unfold mapO; rw [List.map_cons]; simp [ih]; rfl
theorem toDT_tmpI (G : GH) (is : List Int) : toDT G (.tmp (is.map W.int)) = some (.list (is.map PyData.int)) := by
  have e : mapO (toD 8 G) (is.map W.int) = some (is.map PyData.int) := mapO_ints 7 G is
  unfold toDT
  simp [e]
theorem toDT_locI {G : GH} {n : Nat} {is : List Int} (h : G[n]? = some (.lst (is.map W.int))) : toDT G (.val (.loc n)) = some (.list (is.map PyData.int)) := by
  have e : mapO (toD 8 G) (is.map W.int) = some (is.map PyData.int) := mapO_ints 7 G is
  unfold toDT toD
  simp [h, e]
@[simp] theorem toDT_int (G : GH) (i : Int) : toDT G (.val (.int i)) = some (.int i) := (rfl)
@[simp] theorem toDT_bl (G : GH) (i : Bool) : toDT G (.val (.bl i)) = some (.bool i) := (rfl)
@[simp] theorem toDT_non (G : GH) : toDT G (.val .non) = some .none := (rfl)
theorem blsW_map (bs : List Bool) : blsW (bs.map W.bl) = some bs := by
  induction bs with
  | nil => rfl
  | cons b bs ih => unfold blsW; rw [List.map_cons]; simp [ih]
theorem intsW_map (bs : List Int) : intsW (bs.map W.int) = some bs := by
  induction bs with
  | nil => rfl
  | cons b bs ih => unfold intsW; rw [List.map_cons]; simp [ih]
theorem fAll_tmp (bs : List Bool) (G : GH) : fAll [.tmp (bs.map W.bl)] G = .ok (.val (.bl (bs.all id))) G := by
  unfold fAll
  simp [blsW_map]
theorem fAny_tmp (bs : List Bool) (G : GH) : fAny [.tmp (bs.map W.bl)] G = .ok (.val (.bl (bs.any id))) G := by
  unfold fAny
  simp [blsW_map]
theorem fSum_tmp (is : List Int) (G : GH) : fSum [.tmp (is.map W.int)] G = .ok (.val (.int is.sum)) G := by
  unfold fSum
  simp [intsW_map]
theorem fAll_yes {α : Type} (ws : List α) (G : GH) : fAll [.tmp (ws.map fun _ => W.bl true)] G = .ok (.val (.bl true)) G := by
  have h := fAll_tmp (ws.map fun _ => true) G
  rw [List.map_map] at h
  rw [show (ws.map fun _ => W.bl true) = ws.map (W.bl ∘ fun _ => true) from rfl, h]
  simp
theorem fIn_ints {G : GH} {n : Nat} {is : List Int} (i : Int) (h : G[n]? = some (.lst (is.map W.int))) : fIn (.val (.int i)) (.val (.loc n)) G = .ok (.val (.bl (decide (i ∈ is)))) G := by
  unfold fIn inB
  simp only [toDT_int, toDT_locI h]
  have e : ((is.map PyData.int).any fun z => PyData.eqv z (.int i)) = decide (i ∈ is) := by
    clear h
    induction is with
    | nil => simp
    | cons j js ih =>
      rw [List.map_cons, List.any_cons, ih, show PyData.eqv (.int j) (.int i) = (j == i) by rw [PyData.eqv]]
      by_cases hj : j = i
      · subst hj; simp
      · have hj2 : ¬ i = j := fun e => hj e.symm
        simp [hj, hj2]
  rw [e]
@[simp] theorem fLen_tmp (ws : List W) (G : GH) : fLen [.tmp ws] G = .ok (.val (.int ws.length)) G := (rfl)
theorem fLen_loc {G : GH} {n : Nat} {ws : List W} (h : G[n]? = some (.lst ws)) : fLen [.val (.loc n)] G = .ok (.val (.int ws.length)) G := by
  unfold fLen
  simp [h]
end Sy
set_option Elab.async false
set_option linter.all false
set_option maxRecDepth 100000
set_option maxHeartbeats 4000000
namespace Sy
open PySem PySem.Spec PyProof.Rows L2
/-! steps of a suite -/
theorem seq_nx {a b : MS} {τ τ1 : Sl} {G G1 : GH} (h : a τ G = .nx τ1 G1) : sSeq a b τ G = b τ1 G1 := by
  rw [sSeq_at, h]; rfl
theorem seq_rt {a b : MS} {τ : Sl} {w : W} {G G1 : GH} (h : a τ G = .rt w G1) : sSeq a b τ G = .rt w G1 := by
  rw [sSeq_at, h]; rfl
theorem seq_ex {a b : MS} {τ τ1 : Sl} {c : Nat} {fs} {G G1 : GH} (h : a τ G = .ex c fs τ1 G1) : sSeq a b τ G = .ex c fs τ1 G1 := by
  rw [sSeq_at, h]; rfl
theorem seq_no {c : M Bool} {a b : MS} {τ : Sl} {G G1 : GH} (h : c τ G = .ok false G1) : sSeq (sIf c a sNext) b τ G = b τ G1 := by
  refine seq_nx ?_
  rw [sIf_at, h]; rfl
theorem seq_yes {c : M Bool} {a b d : MS} {τ : Sl} {G G1 : GH} (h : c τ G = .ok true G1) : sSeq (sIf c a d) b τ G = sSeq a b τ G1 := by
  rw [sSeq_at, sSeq_at, sIf_at, h]; rfl
theorem seq_else {c : M Bool} {a b d : MS} {τ : Sl} {G G1 : GH} (h : c τ G = .ok false G1) : sSeq (sIf c a d) b τ G = sSeq d b τ G1 := by
  rw [sSeq_at, sSeq_at, sIf_at, h]; rfl
theorem if_no {c : M Bool} {a : MS} {τ : Sl} {G G1 : GH} (h : c τ G = .ok false G1) : sIf c a sNext τ G = .nx τ G1 := by
  rw [sIf_at, h]; rfl
theorem if_yes {c : M Bool} {a d : MS} {τ : Sl} {G G1 : GH} (h : c τ G = .ok true G1) : sIf c a d τ G = a τ G1 := by
  rw [sIf_at, h]; rfl
theorem if_else {c : M Bool} {a d : MS} {τ : Sl} {G G1 : GH} (h : c τ G = .ok false G1) : sIf c a d τ G = d τ G1 := by
  rw [sIf_at, h]; rfl
theorem try_nx {xt : XTab} {C i : Nat} {mb : MS} {ms : Nat → Addr → MS} {τ τ1 : Sl} {G G1 : GH} (h : mb τ G = .nx τ1 G1) : sTry xt C i mb ms τ G = .nx τ1 G1 := by
  unfold sTry; rw [h]
theorem try_rt {xt : XTab} {C i : Nat} {mb : MS} {ms : Nat → Addr → MS} {τ : Sl} {w : W} {G G1 : GH} (h : mb τ G = .rt w G1) : sTry xt C i mb ms τ G = .rt w G1 := by
  unfold sTry; rw [h]
theorem try_ex {xt : XTab} {C i c : Nat} {mb : MS} {ms : Nat → Addr → MS} {τ τ1 : Sl} {G G1 : GH} {r : RS} (h : mb τ G = .ex c [] τ1 G1) (hx : xsub xt c C = some true) (hs : ∀ a, (ms c a (τ1.set i (some (.exn c a))) G1).unS i = r) : sTry xt C i mb ms τ G = r := by
  unfold sTry; rw [h]
  simp only [hx]
  exact pick_eq hs
theorem mDef_ex {n : Nat} {b : MS} {ws : List W} {G : GH} (τ : Sl) {τ1 : Sl} {c : Nat} {fs} {G' : GH} (h : b τ G = .ex c fs τ1 G') (hτ : ws.map some ++ List.replicate (n - ws.length) none = τ := by rfl) : mDef n b ws G = .ex c fs G' := by
  rw [mDef_fin, hτ, h]; rfl
theorem mDef_nx {n : Nat} {b : MS} {ws : List W} {G : GH} (τ : Sl) {τ1 : Sl} {G' : GH} (h : b τ G = .nx τ1 G') (hτ : ws.map some ++ List.replicate (n - ws.length) none = τ := by rfl) : mDef n b ws G = .ok .non G' := by
  rw [mDef_fin, hτ, h]; rfl
@[simp] theorem sRaise_at (c : Nat) (τ : Sl) (G : GH) : sRaise c τ G = .ex c [] τ G := (rfl)
@[simp] theorem mDict0_at (τ : Sl) (G : GH) : mDict0 τ G = .ok (.val (.loc G.length)) (G ++ [.dK []]) := (rfl)
theorem fIsE_ok {it : ITab} {c : Nat} {a : Addr} {k : W} {b : Bool} {G : GH} (h : (ckW k).bind (isub it c) = some b) : fIsE it c a [.val (.exn c a), .val k] G = .ok (.val (.bl b)) G := by
  unfold fIsE
  simp [h]
/-! types -/
def fIsiR (o : Option Bool) (G : GH) : R T := match o with
  | some b => .ok (.val (.bl b)) G
  | none => .bad
theorem fIsi_at (t : T) (b : String) (G : GH) : fIsi [t, .val (.ty b)] G = fIsiR ((tyOf G t).bind fun a => subTy a b) G := by
  show (match (tyOf G t).bind fun a => subTy a b with
    | some r => R.ok (T.val (W.bl r)) G
    | none => R.bad) = _
  unfold fIsiR
  cases (tyOf G t).bind fun a => subTy a b <;> rfl
theorem tyOf_lst {G : GH} {n : Nat} {ws : List W} (h : G[n]? = some (.lst ws)) : tyOf G (.val (.loc n)) = some "list" := by
  unfold tyOf; simp [h]
theorem tyOf_dK {G : GH} {n : Nat} {ws} (h : G[n]? = some (.dK ws)) : tyOf G (.val (.loc n)) = some "dict" := by
  unfold tyOf; simp [h]
theorem isi_of {G : GH} {t : T} {a b : String} {r : Bool} (h : tyOf G t = some a) (hs : subTy a b = some r) : fIsi [t, .val (.ty b)] G = .ok (.val (.bl r)) G := by
  rw [fIsi_at, h, Option.bind_some, hs]; rfl
@[simp] theorem isi_int_int (i : Int) (G : GH) : fIsi [.val (.int i), .val (.ty "int")] G = .ok (.val (.bl true)) G := isi_of (a := "int") rfl (by decide)
@[simp] theorem isi_int_bool (i : Int) (G : GH) : fIsi [.val (.int i), .val (.ty "bool")] G = .ok (.val (.bl false)) G := isi_of (a := "int") rfl (by decide)
@[simp] theorem isi_int_list (i : Int) (G : GH) : fIsi [.val (.int i), .val (.ty "list")] G = .ok (.val (.bl false)) G := isi_of (a := "int") rfl (by decide)
@[simp] theorem isi_int_tuple (i : Int) (G : GH) : fIsi [.val (.int i), .val (.ty "tuple")] G = .ok (.val (.bl false)) G := isi_of (a := "int") rfl (by decide)
@[simp] theorem isi_bl_int (i : Bool) (G : GH) : fIsi [.val (.bl i), .val (.ty "int")] G = .ok (.val (.bl true)) G := isi_of (a := "bool") rfl (by decide)
@[simp] theorem isi_bl_bool (i : Bool) (G : GH) : fIsi [.val (.bl i), .val (.ty "bool")] G = .ok (.val (.bl true)) G := isi_of (a := "bool") rfl (by decide)
@[simp] theorem isi_non_int (G : GH) : fIsi [.val .non, .val (.ty "int")] G = .ok (.val (.bl false)) G := isi_of (a := "NoneType") rfl (by decide)
@[simp] theorem isi_non_list (G : GH) : fIsi [.val .non, .val (.ty "list")] G = .ok (.val (.bl false)) G := isi_of (a := "NoneType") rfl (by decide)
@[simp] theorem isi_str_int (x : Str) (G : GH) : fIsi [.val (.str x), .val (.ty "int")] G = .ok (.val (.bl false)) G := isi_of (a := "str") rfl (by decide)
@[simp] theorem isi_str_list (x : Str) (G : GH) : fIsi [.val (.str x), .val (.ty "list")] G = .ok (.val (.bl false)) G := isi_of (a := "str") rfl (by decide)
@[simp] theorem isi_tup_int (x : List W) (G : GH) : fIsi [.val (.tup x), .val (.ty "int")] G = .ok (.val (.bl false)) G := isi_of (a := "tuple") rfl (by decide)
@[simp] theorem isi_tup_list (x : List W) (G : GH) : fIsi [.val (.tup x), .val (.ty "list")] G = .ok (.val (.bl false)) G := isi_of (a := "tuple") rfl (by decide)
@[simp] theorem isi_tup_tuple (x : List W) (G : GH) : fIsi [.val (.tup x), .val (.ty "tuple")] G = .ok (.val (.bl true)) G := isi_of (a := "tuple") rfl (by decide)
theorem isi_lst_list {G : GH} {n : Nat} {ws : List W} (h : G[n]? = some (.lst ws)) : fIsi [.val (.loc n), .val (.ty "list")] G = .ok (.val (.bl true)) G := isi_of (tyOf_lst h) (by decide)
theorem isi_lst_int {G : GH} {n : Nat} {ws : List W} (h : G[n]? = some (.lst ws)) : fIsi [.val (.loc n), .val (.ty "int")] G = .ok (.val (.bl false)) G := isi_of (tyOf_lst h) (by decide)
/-! lists of ints, lists of places -/
abbrev iW (is : List Int) : List W := is.map W.int
def locs (n k : Nat) : List W := (List.range k).map fun i => W.loc (n + i)
@[simp] theorem locs_len (n k : Nat) : (locs n k).length = k := by simp [locs]
theorem locs_succ (n k : Nat) : locs n (k + 1) = .loc n :: locs (n + 1) k := by
  unfold locs
  rw [List.range_succ_eq_map, List.map_cons, List.map_map]
  congr 1
  apply List.map_congr_left
  intro i _
  show W.loc (n + (i + 1)) = W.loc (n + 1 + i)
  congr 1; omega
/-! pictures: a list of lists -/
structure RowsAt (G : GH) (n : Nat) (ms : List Nat) (rows : List (List W)) : Prop where
  top : G[n]? = some (.lst (ms.map W.loc))
  row : Paired (fun m r => G[m]? = some (.lst r)) ms rows
theorem get_mono {G : GH} {n : Nat} {o : GO} (h : G[n]? = some o) (xs : GH) : (G ++ xs)[n]? = some o := by
  rw [List.getElem?_append_left (List.getElem?_eq_some_iff.mp h).1]; exact h
theorem pair_imp {α β : Type} {P Q : α → β → Prop} {xs : List α} {ys : List β} (h : Paired P xs ys) (f : ∀ x y, P x y → Q x y) : Paired Q xs ys := paired_imp h f
theorem RowsAt.mono {G : GH} {n : Nat} {ms : List Nat} {rows : List (List W)} (h : RowsAt G n ms rows) (xs : GH) : RowsAt (G ++ xs) n ms rows :=
  ⟨get_mono h.top xs, paired_imp h.row fun _ _ e => get_mono e xs⟩
theorem RowsAt.len {G : GH} {n : Nat} {ms : List Nat} {rows : List (List W)} (h : RowsAt G n ms rows) : ms.length = rows.length := h.row.length
theorem paired_mem {α β : Type} {P : α → β → Prop} {xs : List α} {ys : List β} (h : Paired P xs ys) : ∀ x ∈ xs, ∃ y ∈ ys, P x y := by
  induction h with
  | nil => simp
  | cons q t ih =>
    intro x hx
    rcases List.mem_cons.mp hx with rfl | hx
    · exact ⟨_, List.mem_cons_self, q⟩
    · obtain ⟨y, h1, h2⟩ := ih x hx
      exact ⟨y, List.mem_cons_of_mem _ h1, h2⟩
theorem paired_nth {α β : Type} {P : α → β → Prop} {xs : List α} {ys : List β} (h : Paired P xs ys) {i : Nat} {y : β} (e : ys[i]? = some y) : ∃ x, xs[i]? = some x ∧ P x y := by
  have hl : i < xs.length := by rw [h.length]; exact (List.getElem?_eq_some_iff.mp e).1
  exact ⟨_, List.getElem?_eq_getElem hl, paired_get h i _ _ (List.getElem?_eq_getElem hl) e⟩
/-- rows as they are laid: the rows, then the list of them -/
def laidR (G : GH) (rows : List (List W)) : GH := G ++ (rows.map GO.lst ++ [.lst (locs G.length rows.length)])
def places (n k : Nat) : List Nat := (List.range k).map (n + ·)
theorem places_loc (n k : Nat) : (places n k).map W.loc = locs n k := by
  unfold places locs
  rw [List.map_map]; rfl
theorem places_nodup (n k : Nat) : (places n k).Nodup := by
  unfold places
  exact List.Pairwise.map _ (fun a b (h : a ≠ b) e => h (by omega)) List.nodup_range
theorem paired_of {α β : Type} {P : α → β → Prop} : ∀ {xs : List α} {ys : List β}, xs.length = ys.length → (∀ (i : Nat) x y, xs[i]? = some x → ys[i]? = some y → P x y) → Paired P xs ys
  | [], [], _, _ => .nil
  | [], _ :: _, h, _ => by simp at h
  | _ :: _, [], h, _ => by simp at h
  | x :: xs, y :: ys, h, f => .cons (f 0 x y rfl rfl) (paired_of (by simpa using h) fun i a b e1 e2 => f (i + 1) a b (by simpa using e1) (by simpa using e2))
theorem laidR_rows (G : GH) (rows : List (List W)) : RowsAt (laidR G rows) (G.length + rows.length) (places G.length rows.length) rows := by
  unfold laidR
  refine ⟨?_, paired_of (by simp [places]) fun i m r e1 e2 => ?_⟩
  · rw [places_loc, get_topk, List.getElem?_append_right (by simp)]
    simp
  · have hl := (List.getElem?_eq_some_iff.mp e2).1
    unfold places at e1
    rw [List.getElem?_map, List.getElem?_range hl] at e1
    cases e1
    show (G ++ _)[G.length + i]? = _
    rw [get_topk, List.getElem?_append_left (by simpa using hl), List.getElem?_map, e2]; rfl
/-! data of rows of ints -/
abbrev pD (pic : List (List Int)) : PyData := .list (pic.map fun r => .list (r.map PyData.int))
theorem toD_ints (n : Nat) {G : GH} {m : Nat} {is : List Int} (h : G[m]? = some (.lst (iW is))) : toD (n + 2) G (.loc m) = some (.list (is.map PyData.int)) := by
  have e := mapO_ints n G is
  unfold toD
  simp [h, e]
theorem mapO_rows (n : Nat) {G : GH} {ms : List Nat} {pic : List (List Int)} (h : Paired (fun m r => G[m]? = some (.lst r)) ms (pic.map iW)) : mapO (toD (n + 2) G) (ms.map W.loc) = some (pic.map fun r => .list (r.map PyData.int)) := by
  induction pic generalizing ms with
  | nil => cases ms with
    | nil => rfl
    | cons m ms => exact absurd h.length (by simp)
  | cons r pic ih =>
    cases ms with
    | nil => exact absurd h.length (by simp)
    | cons m ms =>
      have h1 : G[m]? = some (.lst (iW r)) := by cases h; assumption
      have h2 : Paired (fun m r => G[m]? = some (.lst r)) ms (pic.map iW) := by cases h; assumption
      rw [List.map_cons, List.map_cons]
      unfold mapO
      rw [toD_ints n h1, ih h2]; rfl
theorem RowsAt.dat {G : GH} {n : Nat} {ms : List Nat} {pic : List (List Int)} (h : RowsAt G n ms (pic.map iW)) : toDT G (.val (.loc n)) = some (pD pic) := by
  have e := mapO_rows 6 h.row
  unfold toDT toD
  simp [h.top, e]
theorem plain_pD (pic : List (List Int)) : plainD (pD pic) = true := by
  rw [plainD]
  induction pic with
  | nil => rfl
  | cons r pic ih =>
    rw [List.map_cons, plainA, ih, plainD, plainA_ints]; rfl
theorem pD_inj {p q : List (List Int)} : pD p = pD q ↔ p = q := by
  constructor
  · intro h
    have h2 : (p.map fun r => PyData.list (r.map PyData.int)) = q.map fun r => PyData.list (r.map PyData.int) := by
      injection h
    induction p generalizing q with
    | nil => cases q <;> simp at h2 ⊢
    | cons r p ih =>
      cases q with
      | nil => simp at h2
      | cons s q =>
        rw [List.map_cons, List.map_cons] at h2
        injection h2 with h3 h4
        injection h3 with h5
        rw [ints_inj.mp h5, ih (by rw [pD, pD, h4]) h4]
  · intro h; rw [h]
theorem eqv_pD (p q : List (List Int)) : PyData.eqv (pD p) (pD q) = decide (p = q) := by
  rw [eqv_dec (plain_pD p) (plain_pD q)]
  simp only [pD_inj]
theorem RowsAt.eq {G : GH} {n m : Nat} {ms ks : List Nat} {p q : List (List Int)} (h : RowsAt G n ms (p.map iW)) (h2 : RowsAt G m ks (q.map iW)) : fEq (.val (.loc n)) (.val (.loc m)) G = .ok (.val (.bl (decide (p = q)))) G := by
  rw [fEq_data h.dat h2.dat, eqv_pD]
theorem RowsAt.ne {G : GH} {n m : Nat} {ms ks : List Nat} {p q : List (List Int)} (h : RowsAt G n ms (p.map iW)) (h2 : RowsAt G m ks (q.map iW)) : fNe (.val (.loc n)) (.val (.loc m)) G = .ok (.val (.bl (!decide (p = q)))) G := by
  rw [fNe_data h.dat h2.dat, eqv_pD]
theorem eq_ints {G : GH} {n m : Nat} {p q : List Int} (h : G[n]? = some (.lst (iW p))) (h2 : G[m]? = some (.lst (iW q))) : fEq (.val (.loc n)) (.val (.loc m)) G = .ok (.val (.bl (decide (p = q)))) G := by
  rw [fEq_data (toDT_locI h) (toDT_locI h2), eqv_ints]
theorem ne_ints {G : GH} {n m : Nat} {p q : List Int} (h : G[n]? = some (.lst (iW p))) (h2 : G[m]? = some (.lst (iW q))) : fNe (.val (.loc n)) (.val (.loc m)) G = .ok (.val (.bl (!decide (p = q)))) G := by
  rw [fNe_data (toDT_locI h) (toDT_locI h2), eqv_ints]
/-! comprehensions that lay a list each turn -/
theorem compF_alloc {src : Src} {g : MG} {c : M Bool} {e : M T} {τ : Sl} {G : GH} {ws : List W} (f : W → List W) (hs : ∀ xs, still src (G ++ xs) = true)
    (h : ∀ w ∈ ws, ∀ xs, ∃ τ1, g w τ = some τ1 ∧ c τ1 (G ++ xs) = .ok true (G ++ xs) ∧ e τ1 (G ++ xs) = .ok (.tmp (f w)) (G ++ xs)) :
    compF src g c e τ ws G = .ok (locs G.length ws.length) (G ++ ws.map fun w => .lst (f w)) := by
  have key : ∀ (ws' : List W) (xs : GH), (∀ w ∈ ws', w ∈ ws) → compF src g c e τ ws' (G ++ xs) = .ok (locs (G ++ xs).length ws'.length) (G ++ xs ++ ws'.map fun w => .lst (f w)) := by
    intro ws'
    induction ws' with
    | nil => intro xs _; unfold compF; rw [hs xs]; simp [locs]
    | cons w ws' ih =>
      intro xs hw
      obtain ⟨τ1, h1, h2, h3⟩ := h w (hw w List.mem_cons_self) xs
      unfold compF
      have h4 : mF e τ1 (G ++ xs) = .ok (.loc (G ++ xs).length) (G ++ (xs ++ [.lst (f w)])) := by
        rw [mF_at, h3, R.bind_ok, force_tmp, List.append_assoc]
      have h5 := ih (xs ++ [.lst (f w)]) fun u hu => hw u (List.mem_cons_of_mem _ hu)
      rw [hs xs, h1]
      simp only [if_true, h2, R.noEx, R.bind_ok, h4, h5]
      congr 1
      · rw [List.length_cons, locs_succ]
        simp
        congr 1
      · simp
  have := key ws [] fun _ h => h
  simpa using this
/-- .. with a test, no list laid -/
theorem compF_filter {src : Src} {g : MG} {c : M Bool} {e : M T} {τ : Sl} {G : GH} {ws : List W} (p : W → Bool) (f : W → W) (hs : still src G = true)
    (h : ∀ w ∈ ws, ∃ τ1, g w τ = some τ1 ∧ c τ1 G = .ok (p w) G ∧ (p w = true → (e τ1 G).bind force = .ok (f w) G)) : compF src g c e τ ws G = .ok ((ws.filter p).map f) G := by
  induction ws with
  | nil => unfold compF; rw [hs]; rfl
  | cons w ws ih =>
    obtain ⟨τ1, h1, h2, h3⟩ := h w List.mem_cons_self
    have ih' := ih fun u hu => h u (List.mem_cons_of_mem _ hu)
    unfold compF
    rw [hs, h1]
    cases e : p w with
    | true =>
      have h3' : mF _ τ1 G = .ok (f w) G := h3 e
      rw [List.filter_cons, e]
      simp only [if_true, h2, e, R.noEx, R.bind_ok, h3', ih']
      rfl
    | false =>
      rw [List.filter_cons, e]
      simp only [if_true, h2, e, R.noEx, R.bind_ok, ih']
      rfl
theorem compF_paired {β : Type} {src : Src} {g : MG} {c : M Bool} {e : M T} {τ : Sl} {G : GH} {ws : List W} {ys : List β} (F : β → W) (hs : still src G = true)
    (hp : Paired (fun w y => ∃ τ1, g w τ = some τ1 ∧ c τ1 G = .ok true G ∧ (e τ1 G).bind force = .ok (F y) G) ws ys) : compF src g c e τ ws G = .ok (ys.map F) G := by
  induction hp with
  | nil => unfold compF; rw [hs]; rfl
  | cons q t ih =>
    obtain ⟨τ1, h1, h2, h3⟩ := q
    unfold compF
    have h3' : mF e τ1 G = .ok (F _) G := h3
    rw [hs, h1]
    simp only [if_true, h2, R.noEx, R.bind_ok, h3', ih]
    rfl
theorem paired_map {α β γ : Type} {P : γ → β → Prop} {f : α → γ} {xs : List α} {ys : List β} (h : Paired (fun x y => P (f x) y) xs ys) : Paired P (xs.map f) ys := by
  induction h with
  | nil => exact .nil
  | cons q t ih => exact .cons q ih
theorem compF_allocP {β : Type} {src : Src} {g : MG} {c : M Bool} {e : M T} {τ : Sl} {G : GH} {ws : List W} {ys : List β} (F : β → List W) (hs : ∀ xs, still src (G ++ xs) = true)
    (hp : Paired (fun w y => ∀ xs, ∃ τ1, g w τ = some τ1 ∧ c τ1 (G ++ xs) = .ok true (G ++ xs) ∧ e τ1 (G ++ xs) = .ok (.tmp (F y)) (G ++ xs)) ws ys) :
    compF src g c e τ ws G = .ok (locs G.length ys.length) (G ++ ys.map fun y => .lst (F y)) := by
  have key : ∀ (ws' : List W) (ys' : List β) (xs : GH), Paired (fun w y => ∀ xs, ∃ τ1, g w τ = some τ1 ∧ c τ1 (G ++ xs) = .ok true (G ++ xs) ∧ e τ1 (G ++ xs) = .ok (.tmp (F y)) (G ++ xs)) ws' ys' →
      compF src g c e τ ws' (G ++ xs) = .ok (locs (G ++ xs).length ys'.length) (G ++ xs ++ ys'.map fun y => .lst (F y)) := by
    intro ws' ys' xs h
    induction h generalizing xs with
    | nil => unfold compF; rw [hs xs]; simp [locs]
    | @cons w y ws' ys' q t ih =>
      obtain ⟨τ1, h1, h2, h3⟩ := q xs
      unfold compF
      have h4 : mF e τ1 (G ++ xs) = .ok (.loc (G ++ xs).length) (G ++ (xs ++ [.lst (F y)])) := by
        rw [mF_at, h3, R.bind_ok, force_tmp, List.append_assoc]
      have h5 := ih (xs ++ [.lst (F y)])
      rw [hs xs, h1]
      simp only [if_true, h2, R.noEx, R.bind_ok, h4, h5]
      congr 1
      · rw [List.length_cons, locs_succ]
        simp
        congr 1
      · simp
  have := key ws ys [] hp
  simpa using this
theorem fList_loc {G : GH} {n : Nat} {ws : List W} (h : G[n]? = some (.lst ws)) : fList [.val (.loc n)] G = .ok (.tmp ws) G := by
  unfold fList
  simp [h]
theorem fAug_loc {G : GH} {n m : Nat} {us ws : List W} (h : G[n]? = some (.lst us)) (h2 : G[m]? = some (.lst ws)) (hl : us.length + ws.length ≤ 16777216) :
    fAugAdd (.val (.loc n)) (.val (.loc m)) G = .ok (.val (.loc n)) (G.set n (.lst (us ++ ws))) := by
  unfold fAugAdd
  simp [h, h2, hl]
theorem fPop_ok {G : GH} {n : Nat} {us : List W} {w : W} (h : G[n]? = some (.lst (us ++ [w]))) : fPop (.val (.loc n)) [] G = .ok (.val w) (G.set n (.lst us)) := by
  unfold fPop
  simp [h]
theorem iterZ_loc {G : GH} {n m : Nat} {ws us : List W} (h : G[n]? = some (.lst ws)) (h2 : G[m]? = some (.lst us)) : iterZ [.val (.loc n), .val (.loc m)] G = .ok (zipW ws us, [(n, ws), (m, us)]) G := by
  unfold iterZ srcOf
  simp [h, h2]
theorem still_two {n m : Nat} {ws us : List W} {G : GH} (h : G[n]? = some (.lst ws)) (h2 : G[m]? = some (.lst us)) : still [(n, ws), (m, us)] G = true := still_iff.mpr fun p hp => by
  simp at hp
  rcases hp with rfl | rfl
  · simp [h]
  · simp [h2]
/-! changes in a heap by place -/
def bump (w : W) : Option GO → Option GO
  | some (.lst r) => some (.lst (r ++ [w]))
  | o => o
/-- G' is G, but for the lists at some places that have w behind -/
def Bumped (w : W) (G : GH) (ms : List Nat) (G' : GH) : Prop := ∀ j, G'[j]? = if j ∈ ms then bump w G[j]? else G[j]?
theorem cut_nat (ws : List W) (lo hi : Nat) : cutW ws (some (lo : Int)) (some (hi : Int)) = (ws.drop lo).take (hi - lo) := by
  unfold cutW
  rw [HT.sIx_nat, HT.sIx_nat]
  apply List.ext_getElem?
  intro i
  rw [List.getElem?_take, List.getElem?_take, List.getElem?_drop, List.getElem?_drop]
  by_cases h : lo ≤ ws.length
  · rw [Nat.min_eq_left h]
    by_cases h2 : i < hi - lo
    · rw [if_pos h2]
      by_cases h3 : i < min hi ws.length - lo
      · rw [if_pos h3]
      · rw [if_neg h3, List.getElem?_eq_none (by omega)]
    · rw [if_neg h2, if_neg (by omega)]
  · rw [Nat.min_eq_right (show ws.length ≤ lo by omega), if_neg (by omega)]
    by_cases h2 : i < hi - lo
    · rw [if_pos h2, List.getElem?_eq_none (by omega)]
    · rw [if_neg h2]
theorem cut_to (ws : List W) (hi : Nat) : cutW ws none (some (hi : Int)) = ws.take hi := by
  have := cut_nat ws 0 hi
  unfold cutW at this ⊢
  rw [HT.sIx_nat, HT.sIx_nat] at this
  rw [HT.sIx_none, HT.sIx_nat]
  simpa using this
theorem cut_from (ws : List W) (lo : Nat) : cutW ws (some (lo : Int)) none = ws.drop lo := by
  unfold cutW
  rw [HT.sIx_nat, HT.sIx_none]
  by_cases h : lo ≤ ws.length
  · rw [Nat.min_eq_left h, List.take_of_length_le (by rw [List.length_drop]; omega)]
  · rw [Nat.min_eq_right (show ws.length ≤ lo by omega), List.drop_eq_nil_of_le (by omega), List.drop_eq_nil_of_le (by omega)]; simp
theorem fSl_loc {G : GH} {n : Nat} {ws : List W} (h : G[n]? = some (.lst ws)) (lo hi : Option Int) : fSl (.val (.loc n)) lo hi G = .ok (.tmp (cutW ws lo hi)) G := by
  unfold fSl
  simp [h]
theorem eq_same {G : GH} {x y : T} {d : PyData} (h1 : toDT G x = some d) (h2 : toDT G y = some d) (nd : noDict d = true) : fEq x y G = .ok (.val (.bl true)) G := by
  rw [fEq_data h1 h2, eqv_self d nd]
theorem ne_same {G : GH} {x y : T} {d : PyData} (h1 : toDT G x = some d) (h2 : toDT G y = some d) (nd : noDict d = true) : fNe x y G = .ok (.val (.bl false)) G := by
  rw [fNe_data h1 h2, eqv_self d nd]; rfl
theorem RowsAt.set {G : GH} {n j : Nat} {ms : List Nat} {rows : List (List W)} {o : GO} (h : RowsAt G n ms rows) (hn : n ≠ j) (hm : j ∉ ms) : RowsAt (G.set j o) n ms rows := by
  have e : ∀ i, i ≠ j → (G.set j o)[i]? = G[i]? := fun i hi => List.getElem?_set_ne fun z => hi z.symm
  refine ⟨by rw [e n hn]; exact h.top, paired_of h.len fun i m r e1 e2 => ?_⟩
  rw [e m fun z => hm (z ▸ List.mem_of_getElem? e1)]
  exact paired_get h.row i m r e1 e2
/-- parts of a list, k each -/
def chunks {α : Type} (k high : Nat) (is : List α) : List (List α) := (List.range high).map fun y => (is.drop (y * k)).take k
theorem chunks_len {α : Type} (k high : Nat) (is : List α) : (chunks k high is).length = high := by simp [chunks]
theorem chunks_map {α β : Type} (f : α → β) (k high : Nat) (is : List α) : chunks k high (is.map f) = (chunks k high is).map fun r => r.map f := by
  unfold chunks
  rw [List.map_map]
  apply List.map_congr_left
  intro y _
  simp [List.map_take, List.map_drop]
theorem chunks_row {α : Type} {k high : Nat} {is : List α} (h : is.length = high * k) : ∀ r ∈ chunks k high is, r.length = k := by
  intro r hr
  obtain ⟨y, hy, rfl⟩ := List.mem_map.mp hr
  rw [List.mem_range] at hy
  rw [List.length_take, List.length_drop, h]
  have : (y + 1) * k ≤ high * k := Nat.mul_le_mul_right k hy
  rw [Nat.add_mul, Nat.one_mul] at this
  omega
theorem chunks_succ {α : Type} (k high : Nat) (is : List α) : chunks k (high + 1) is = chunks k high is ++ [(is.drop (high * k)).take k] := by
  unfold chunks
  rw [List.range_succ, List.map_append]; rfl
theorem chunks_flat {α : Type} (k high : Nat) (is : List α) : (chunks k high is).flatten = is.take (high * k) := by
  induction high with
  | zero => simp [chunks]
  | succ high ih =>
    rw [chunks_succ, List.flatten_append, ih, Nat.add_mul, Nat.one_mul, List.take_add]
    simp
theorem chunks_mem {α : Type} {k high : Nat} {is : List α} {r : List α} (hr : r ∈ chunks k high is) : ∀ c ∈ r, c ∈ is := by
  intro c hc
  obtain ⟨y, _, rfl⟩ := List.mem_map.mp hr
  exact List.mem_of_mem_drop (List.mem_of_mem_take hc)
theorem toD_str {n : Nat} {G : GH} {x : Str} (h : x.cps.all (· < 0x110000) = true) : toD (n + 1) G (.str x) = some (.str x) := by
  unfold toD
  simp only [h, if_true]
@[simp] theorem toD_int (n : Nat) (G : GH) (i : Int) : toD (n + 1) G (.int i) = some (.int i) := (rfl)
@[simp] theorem toD_bl (n : Nat) (G : GH) (i : Bool) : toD (n + 1) G (.bl i) = some (.bool i) := (rfl)
@[simp] theorem toD_non (n : Nat) (G : GH) : toD (n + 1) G .non = some .none := (rfl)
@[simp] theorem toD_tup (n : Nat) (G : GH) (ws : List W) : toD (n + 1) G (.tup ws) = (mapO (toD n G) ws).map .tuple := (rfl)
@[simp] theorem mapO_nil {α β : Type} (f : α → Option β) : mapO f [] = some [] := (rfl)
@[simp] theorem mapO_cons {α β : Type} (f : α → Option β) (x : α) (xs : List α) : mapO f (x :: xs) = (f x).bind fun y => (mapO f xs).bind fun ys => some (y :: ys) := (rfl)
@[simp] theorem toDT_tup (G : GH) (ws : List W) : toDT G (.val (.tup ws)) = (mapO (toD 8 G) ws).map .tuple := (rfl)
theorem toDT_str {G : GH} {x : Str} (h : x.cps.all (· < 0x110000) = true) : toDT G (.val (.str x)) = some (.str x) := toD_str (n := 8) (G := G) h
theorem refused_ok : ("refused" : Str).cps.all (· < 0x110000) = true := by decide +kernel
theorem mapO_mono {α β : Type} {f g : α → Option β} : ∀ {xs : List α} {ys : List β}, (∀ x ∈ xs, ∀ y, f x = some y → g x = some y) → mapO f xs = some ys → mapO g xs = some ys
  | [], _, _, h => h
  | x :: xs, ys, hf, h => by
    unfold mapO at h ⊢
    cases e1 : f x with
    | none => rw [e1] at h; cases h
    | some y =>
      cases e2 : mapO f xs with
      | none => rw [e1, e2] at h; cases h
      | some zs =>
        rw [e1, e2] at h
        rw [hf x List.mem_cons_self y e1, mapO_mono (fun u hu => hf u (List.mem_cons_of_mem _ hu)) e2]
        exact h
theorem mapO_len {α β : Type} {f : α → Option β} : ∀ {xs : List α} {ys : List β}, mapO f xs = some ys → ys.length = xs.length
  | [], _, h => by cases h; rfl
  | x :: xs, ys, h => by
    unfold mapO at h
    cases e1 : f x with
    | none => rw [e1] at h; cases h
    | some y =>
      cases e2 : mapO f xs with
      | none => rw [e1, e2] at h; cases h
      | some zs =>
        rw [e1, e2] at h
        cases h
        rw [List.length_cons, List.length_cons, mapO_len e2]
theorem mapO_drop {α β : Type} {f : α → Option β} : ∀ (k : Nat) {xs : List α} {ys : List β}, mapO f xs = some ys → mapO f (xs.drop k) = some (ys.drop k)
  | 0, _, _, h => h
  | k + 1, [], _, h => by cases h; rfl
  | k + 1, x :: xs, ys, h => by
    unfold mapO at h
    cases e1 : f x with
    | none => rw [e1] at h; cases h
    | some y =>
      cases e2 : mapO f xs with
      | none => rw [e1, e2] at h; cases h
      | some zs =>
        rw [e1, e2] at h
        cases h
        exact mapO_drop k e2
theorem mapO_app {α β : Type} {f : α → Option β} : ∀ {xs zs : List α} {ys us : List β}, mapO f xs = some ys → mapO f zs = some us → mapO f (xs ++ zs) = some (ys ++ us)
  | [], _, _, _, h, h2 => by cases h; exact h2
  | x :: xs, zs, ys, us, h, h2 => by
    unfold mapO at h
    cases e1 : f x with
    | none => rw [e1] at h; cases h
    | some y =>
      cases e2 : mapO f xs with
      | none => rw [e1, e2] at h; cases h
      | some ws =>
        rw [e1, e2] at h
        cases h
        rw [List.cons_append]
        unfold mapO
        rw [e1, mapO_app e2 h2]; rfl
theorem mapO_some {α β : Type} {f : α → Option β} : ∀ {xs : List α}, (∀ x ∈ xs, ∃ y, f x = some y) → ∃ ys, mapO f xs = some ys
  | [], _ => ⟨[], rfl⟩
  | x :: xs, h => by
    obtain ⟨y, e⟩ := h x List.mem_cons_self
    obtain ⟨ys, e2⟩ := mapO_some (fun u hu => h u (List.mem_cons_of_mem _ hu))
    exact ⟨y :: ys, by unfold mapO; rw [e, e2]; rfl⟩
theorem toD_mono (xs : GH) {G : GH} : ∀ (n : Nat) (w : W) (d : PyData), toD n G w = some d → toD n (G ++ xs) w = some d
  | 0, _, _, h => by cases h
  | n + 1, w, d, h => by
    cases w with
    | non => exact h
    | bl b => exact h
    | int i => exact h
    | str x => exact h
    | tup ws =>
      rw [toD_tup] at h ⊢
      cases e : mapO (toD n G) ws with
      | none => rw [e] at h; cases h
      | some ds => rw [e] at h; rw [mapO_mono (fun u _ y => toD_mono xs n u y) e]; exact h
    | loc k =>
      have h2 : ((rdw G (.loc k)).bind fun ws => (mapO (toD n G) ws).map PyData.list) = some d := h
      show ((rdw (G ++ xs) (.loc k)).bind fun ws => (mapO (toD n (G ++ xs)) ws).map PyData.list) = some d
      rw [rdw_loc] at h2 ⊢
      cases e0 : G[k]? with
      | none => rw [e0] at h2; cases h2
      | some o =>
        rw [get_mono e0 xs]
        rw [e0] at h2
        cases o with
        | lst ws =>
          have h3 : (mapO (toD n G) ws).map PyData.list = some d := h2
          show (mapO (toD n (G ++ xs)) ws).map PyData.list = some d
          cases e : mapO (toD n G) ws with
          | none => rw [e] at h3; cases h3
          | some ds => rw [e] at h3; rw [mapO_mono (fun u _ y => toD_mono xs n u y) e]; exact h3
        | _ => cases h2
    | frl ws =>
      have h3 : (mapO (toD n G) ws).map PyData.list = some d := h
      show (mapO (toD n (G ++ xs)) ws).map PyData.list = some d
      cases e : mapO (toD n G) ws with
      | none => rw [e] at h3; cases h3
      | some ds => rw [e] at h3; rw [mapO_mono (fun u _ y => toD_mono xs n u y) e]; exact h3
    | ty b => exact h
    | cls b => exact h
    | exn c a => exact h
theorem mapD_mono (xs : GH) {G : GH} {n : Nat} {ws : List W} {ds : List PyData} (h : mapO (toD n G) ws = some ds) : mapO (toD n (G ++ xs)) ws = some ds := mapO_mono (fun u _ y => toD_mono xs n u y) h
theorem fIx_tmp {ws : List W} {k : Nat} {w : W} {G : GH} (h : ws[k]? = some w) : fIx (.tmp ws) (.val (.int k)) G = .ok (.val w) G := by
  unfold fIx
  simp [atI_nat h]
end Sy
set_option Elab.async false
set_option linter.all false
set_option maxRecDepth 100000
set_option maxHeartbeats 4000000
namespace Sy
open PySem PySem.Spec PyProof.Rows L2
theorem mod_nat (z : Int) {m : Nat} (h : 0 < m) : ∃ n : Nat, z % m = n ∧ n < m := by
  have h1 := Int.emod_nonneg z (show (m : Int) ≠ 0 by omega)
  have h2 := Int.emod_lt_of_pos z (show (0 : Int) < m by omega)
  obtain ⟨n, hn⟩ := Int.eq_ofNat_of_zero_le h1
  exact ⟨n, hn, by omega⟩
/-! heaps that grow, the old part staying -/
structure Keeps (G G' : GH) : Prop where
  len : G.length ≤ G'.length
  old : ∀ k, k < G.length → G'[k]? = G[k]?
theorem Keeps.refl (G : GH) : Keeps G G := ⟨Nat.le_refl _, fun _ _ => rfl⟩
theorem Keeps.trans {G G1 G2 : GH} (a : Keeps G G1) (b : Keeps G1 G2) : Keeps G G2 := ⟨Nat.le_trans a.len b.len, fun k hk => by rw [b.old k (Nat.lt_of_lt_of_le hk a.len), a.old k hk]⟩
theorem Keeps.app (G xs : GH) : Keeps G (G ++ xs) := ⟨by simp, fun k hk => List.getElem?_append_left hk⟩
theorem Keeps.two {G G1 : GH} (k : Keeps G G1) (xs : GH) : Keeps G (G1 ++ xs) := k.trans (Keeps.app _ _)
theorem Keeps.set {G G' : GH} (h : Keeps G G') {n : Nat} (hn : G.length ≤ n) (o : GO) : Keeps G (G'.set n o) := ⟨by rw [List.length_set]; exact h.len, fun k hk => by rw [List.getElem?_set_ne (by omega), h.old k hk]⟩
theorem Keeps.get {G G' : GH} (h : Keeps G G') {n : Nat} {o : GO} (e : G[n]? = some o) : G'[n]? = some o := by
  rw [h.old n (List.getElem?_eq_some_iff.mp e).1]
  exact e
theorem RowsAt.keep {G G' : GH} {n : Nat} {ms : List Nat} {rows : List (List W)} (h : RowsAt G n ms rows) (k : Keeps G G') : RowsAt G' n ms rows := ⟨k.get h.top, paired_imp h.row fun _ _ e => k.get e⟩
theorem paired_snoc {α β : Type} {P : α → β → Prop} {as : List α} {bs : List β} {a : α} {b : β} (h : Paired P as bs) (q : P a b) : Paired P (as ++ [a]) (bs ++ [b]) := by
  induction h with
  | nil => exact .cons q .nil
  | cons q t ih => exact .cons q ih
theorem RowsAt.snoc {G : GH} {n m : Nat} {ms : List Nat} {rows : List (List W)} {r : List W} (h : RowsAt G n ms rows) (hn : n ∉ ms) (hm : G[m]? = some (.lst r)) (hmn : m ≠ n) : RowsAt (G.set n (.lst (ms.map W.loc ++ [.loc m]))) n (ms ++ [m]) (rows ++ [r]) := by
  have hl : n < G.length := (List.getElem?_eq_some_iff.mp h.top).1
  refine ⟨by rw [List.getElem?_set_self hl]; simp, ?_⟩
  refine paired_snoc (paired_of h.row.length fun i x y e1 e2 => ?_) (by rw [List.getElem?_set_ne (fun z => hmn z.symm)]; exact hm)
  rw [List.getElem?_set_ne (fun z => hn (by rw [z]; exact List.mem_of_getElem? e1))]
  exact paired_get h.row i x y e1 e2
theorem compF_range {g : MG} {c : M Bool} {e : M T} {τ : Sl} {G : GH} {n : Nat} (F : Nat → W) (h : ∀ i : Nat, i < n → ∃ τ1, g (.int i) τ = some τ1 ∧ c τ1 G = .ok true G ∧ (e τ1 G).bind force = .ok (F i) G) :
    compF [] g c e τ (rangeW 0 n) G = .ok ((List.range n).map F) G := by
  refine compF_paired (F := F) still_nil ?_
  refine paired_of (by simp) fun i w y e1 e2 => ?_
  obtain ⟨hi, rfl⟩ := rangeW_get e1
  rw [List.getElem?_range hi] at e2
  cases e2
  rw [Int.zero_add]
  exact h i hi
theorem fIx_mod {ws : List W} {z : Int} {m : Nat} (h0 : 0 < m) (h : ws.length = m) (G : GH) : ∃ u ∈ ws, fIx (.tmp ws) (.val (.int (z % m))) G = .ok (.val u) G := by
  obtain ⟨k, hk, hk2⟩ := mod_nat z h0
  have e : ws[k]? = some ws[k] := List.getElem?_eq_getElem (by omega)
  exact ⟨ws[k], List.getElem_mem _, by rw [hk]; exact fIx_tmp e⟩
theorem last_get (G : GH) (o : GO) : (G ++ [o])[G.length]? = some o := by simp
theorem forL_nx {src : Src} {g : MG} {b : MS} {w : W} {ws : List W} {τ τ1 τ2 : Sl} {G G2 : GH} (hs : still src G = true) (hg : g w τ = some τ1) (hb : b τ1 G = .nx τ2 G2) : forL src g b (w :: ws) τ G = forL src g b ws τ2 G2 := by
  conv => lhs; unfold forL
  rw [hs, hg]
  simp only [if_true, hb]
theorem forL_rt {src : Src} {g : MG} {b : MS} {w v : W} {ws : List W} {τ τ1 : Sl} {G G2 : GH} (hs : still src G = true) (hg : g w τ = some τ1) (hb : b τ1 G = .rt v G2) : forL src g b (w :: ws) τ G = .rt v G2 := by
  conv => lhs; unfold forL
  rw [hs, hg]
  simp only [if_true, hb]
theorem forL_bk {src : Src} {g : MG} {b : MS} {w : W} {ws : List W} {τ τ1 τ2 : Sl} {G G2 : GH} (hs : still src G = true) (hg : g w τ = some τ1) (hb : b τ1 G = .bk τ2 G2) : forL src g b (w :: ws) τ G = .nx τ2 G2 := by
  conv => lhs; unfold forL
  rw [hs, hg]
  simp only [if_true, hb]
theorem forL_ex {src : Src} {g : MG} {b : MS} {w : W} {ws : List W} {τ τ1 τ2 : Sl} {G G2 : GH} {c : Nat} {fs} (hs : still src G = true) (hg : g w τ = some τ1) (hb : b τ1 G = .ex c fs τ2 G2) : forL src g b (w :: ws) τ G = .ex c fs τ2 G2 := by
  conv => lhs; unfold forL
  rw [hs, hg]
  simp only [if_true, hb]
theorem forL_end {src : Src} {g : MG} {b : MS} {τ : Sl} {G : GH} (hs : still src G = true) : forL src g b [] τ G = .nx τ G := by
  unfold forL
  rw [if_pos hs]
/-- a comprehension with a test, over things that are told by others -/
theorem compF_filterP {β : Type} {src : Src} {g : MG} {c : M Bool} {e : M T} {τ : Sl} {G : GH} {ws : List W} {ys : List β} (p : β → Bool) (F : β → W) (hs : still src G = true)
    (hp : Paired (fun w y => ∃ τ1, g w τ = some τ1 ∧ c τ1 G = .ok (p y) G ∧ (p y = true → (e τ1 G).bind force = .ok (F y) G)) ws ys) : compF src g c e τ ws G = .ok ((ys.filter p).map F) G := by
  induction hp with
  | nil => unfold compF; rw [hs]; rfl
  | @cons w y ws ys q t ih =>
    obtain ⟨τ1, h1, h2, h3⟩ := q
    unfold compF
    rw [hs, h1]
    cases e : p y with
    | true =>
      have h3' : mF _ τ1 G = .ok (F y) G := h3 e
      rw [List.filter_cons, e]
      simp only [if_true, h2, e, R.noEx, R.bind_ok, h3', ih]
      rfl
    | false =>
      rw [List.filter_cons, e]
      simp only [if_true, h2, e, R.noEx, R.bind_ok, ih]
      rfl
/-- a thing put behind a list -/
theorem app_one {i L : Nat} {S : M T} {τ : Sl} {G G1 : GH} {t : W} {us : List W} (hi : τ[i]? = some (some (.loc L))) (hG : G[L]? = some (.lst us)) (hS : (S τ G).bind force = .ok t G1) (hL : G1[L]? = some (.lst us)) (hl : us.length < 1000000) :
    sDrop (mMtF isLst fApp (mVar i) (mCons S mNil)) τ G = .nx τ (G1.set L (.lst (us ++ [t]))) := by
  have h1 := isLst_ok hG
  have h2 := fApp_ok (w := t) hL (by omega)
  rw [sDrop_at, mMtF_at, mVar_at, hi, asO_ok, R.bind_ok, if_pos h1, mCons_at, hS]
  simp only [R.bind_ok, mNil_at, h2, R.toS_ok]
/-- a comprehension over a range that lays a list each turn -/
theorem compF_allocR {src : Src} {g : MG} {c : M Bool} {e : M T} {τ : Sl} {G : GH} {n : Nat} (F : Nat → List W) (hs : ∀ xs, still src (G ++ xs) = true)
    (h : ∀ i : Nat, i < n → ∀ xs, ∃ τ1, g (.int i) τ = some τ1 ∧ c τ1 (G ++ xs) = .ok true (G ++ xs) ∧ e τ1 (G ++ xs) = .ok (.tmp (F i)) (G ++ xs)) :
    compF src g c e τ (rangeW 0 n) G = .ok (locs G.length n) (G ++ (List.range n).map fun i => GO.lst (F i)) := by
  have hp : Paired (fun w i => ∀ xs, ∃ τ1, g w τ = some τ1 ∧ c τ1 (G ++ xs) = .ok true (G ++ xs) ∧ e τ1 (G ++ xs) = .ok (.tmp (F i)) (G ++ xs)) (rangeW 0 n) (List.range n) := by
    refine paired_of (by simp) fun i w k e1 e2 => ?_
    obtain ⟨h1, rfl⟩ := rangeW_get e1
    rw [List.getElem?_range h1] at e2
    cases e2
    intro xs
    rw [Int.zero_add]
    exact h i h1 xs
  rw [compF_allocP F hs hp, List.length_range]
/-- a comprehension over a range in a heap that grows -/
theorem compF_grow {src : Src} {g : MG} {c : M Bool} {e : M T} {τ : Sl} {G : GH} {n : Nat} (p : Nat → Bool) (F : Nat → W) (hs : ∀ G', Keeps G G' → still src G' = true)
    (h : ∀ i : Nat, i < n → ∀ G', Keeps G G' → ∃ τ1 G2 G3, g (.int i) τ = some τ1 ∧ c τ1 G' = .ok (p i) G2 ∧ Keeps G' G2 ∧ Keeps G2 G3 ∧ (p i = true → (e τ1 G2).bind force = .ok (F i) G3)) :
    ∃ G', Keeps G G' ∧ compF src g c e τ (rangeW 0 n) G = .ok (((List.range n).filter p).map F) G' := by
  have key : ∀ (ks : List Nat), (∀ k ∈ ks, k < n) → ∀ G1, Keeps G G1 → ∃ G', Keeps G1 G' ∧ compF src g c e τ (ks.map fun i : Nat => W.int i) G1 = .ok ((ks.filter p).map F) G' := by
    intro ks
    induction ks with
    | nil =>
      intro _ G1 k1
      refine ⟨G1, Keeps.refl _, ?_⟩
      show compF src g c e τ [] G1 = _
      unfold compF
      rw [hs G1 k1]
      rfl
    | cons k ks ih =>
      intro hk G1 k1
      obtain ⟨τ1, G2, G3, h1, h2, k2, k3, h3⟩ := h k (hk k List.mem_cons_self) G1 k1
      rw [List.map_cons]
      unfold compF
      rw [hs G1 k1, h1]
      cases e0 : p k with
      | true =>
        rw [e0] at h2
        obtain ⟨G4, k4, h4⟩ := ih (fun j hj => hk j (List.mem_cons_of_mem _ hj)) G3 ((k1.trans k2).trans k3)
        have h3' : mF e τ1 G2 = .ok (F k) G3 := h3 e0
        refine ⟨G4, (k2.trans k3).trans k4, ?_⟩
        rw [List.filter_cons, e0]
        simp only [if_true, h2, R.noEx, R.bind_ok, h3', h4]
        rfl
      | false =>
        rw [e0] at h2
        obtain ⟨G4, k4, h4⟩ := ih (fun j hj => hk j (List.mem_cons_of_mem _ hj)) G2 (k1.trans k2)
        refine ⟨G4, k2.trans k4, ?_⟩
        rw [List.filter_cons, e0]
        simp only [if_true, h2, R.noEx, R.bind_ok, h4]
        rfl
  have e1 : rangeW 0 n = (List.range n).map fun i : Nat => W.int i := by
    unfold rangeW
    exact List.map_congr_left fun i _ => by rw [Int.zero_add]
  rw [e1]
  exact key _ (fun k hk => List.mem_range.mp hk) G (Keeps.refl _)
/-- a comprehension over a range that tells places, in a heap that grows -/
theorem compF_growL {src : Src} {g : MG} {c : M Bool} {e : M T} {τ : Sl} {G : GH} {n : Nat} (P : GH → Nat → Nat → Prop) (mono : ∀ G1 G2 i v, Keeps G1 G2 → P G1 i v → P G2 i v) (hs : ∀ G', Keeps G G' → still src G' = true)
    (h : ∀ i : Nat, i < n → ∀ G', Keeps G G' → ∃ τ1 G2 v, g (.int i) τ = some τ1 ∧ c τ1 G' = .ok true G' ∧ (e τ1 G').bind force = .ok (.loc v) G2 ∧ Keeps G' G2 ∧ P G2 i v) :
    ∃ vs G', compF src g c e τ (rangeW 0 n) G = .ok (vs.map W.loc) G' ∧ Keeps G G' ∧ Paired (fun v i => P G' i v) vs (List.range n) := by
  have key : ∀ (ks : List Nat), (∀ k ∈ ks, k < n) → ∀ G1, Keeps G G1 → ∃ vs G', compF src g c e τ (ks.map fun i : Nat => W.int i) G1 = .ok (vs.map W.loc) G' ∧ Keeps G1 G' ∧ Paired (fun v i => P G' i v) vs ks := by
    intro ks
    induction ks with
    | nil =>
      intro _ G1 k1
      refine ⟨[], G1, ?_, Keeps.refl _, .nil⟩
      show compF src g c e τ [] G1 = _
      unfold compF
      rw [hs G1 k1]
      rfl
    | cons k ks ih =>
      intro hk G1 k1
      obtain ⟨τ1, G2, v, h1, h2, h3, k2, hp⟩ := h k (hk k List.mem_cons_self) G1 k1
      obtain ⟨vs, G3, h4, k3, h5⟩ := ih (fun j hj => hk j (List.mem_cons_of_mem _ hj)) G2 (k1.trans k2)
      have h3' : mF e τ1 G1 = .ok (.loc v) G2 := h3
      refine ⟨v :: vs, G3, ?_, k2.trans k3, .cons (mono _ _ _ _ k3 hp) h5⟩
      rw [List.map_cons]
      unfold compF
      rw [hs G1 k1, h1]
      simp only [if_true, h2, R.noEx, R.bind_ok, h3', h4]
      rfl
  have e1 : rangeW 0 n = (List.range n).map fun i : Nat => W.int i := by
    unfold rangeW
    exact List.map_congr_left fun i _ => by rw [Int.zero_add]
  rw [e1]
  exact key _ (fun k hk => List.mem_range.mp hk) G (Keeps.refl _)
/-- a comprehension that tells new places, each behind the ones ahead -/
theorem compF_growX {src : Src} {g : MG} {c : M Bool} {e : M T} {τ : Sl} {G : GH} {ws : List W} (P : GH → Nat → Nat → Prop) (mono : ∀ G1 G2 i v, Keeps G1 G2 → P G1 i v → P G2 i v) (hs : ∀ G', Keeps G G' → still src G' = true)
    (h : ∀ (i : Nat) w, ws[i]? = some w → ∀ G', Keeps G G' → ∃ τ1 G2 v, g w τ = some τ1 ∧ c τ1 G' = .ok true G' ∧ (e τ1 G').bind force = .ok (.loc v) G2 ∧ Keeps G' G2 ∧ G'.length ≤ v ∧ v < G2.length ∧ P G2 i v) :
    ∃ (vs : List Nat) (G' : GH), compF src g c e τ ws G = .ok (vs.map W.loc) G' ∧ Keeps G G' ∧ vs.length = ws.length ∧ vs.Nodup ∧ (∀ v ∈ vs, G.length ≤ v ∧ v < G'.length) ∧ ∀ (i : Nat) v, vs[i]? = some v → P G' i v := by
  have key : ∀ (us : List W) (j : Nat), (∀ (i : Nat) w, us[i]? = some w → ws[j + i]? = some w) → ∀ G1, Keeps G G1 → ∃ (vs : List Nat) (G' : GH), compF src g c e τ us G1 = .ok (vs.map W.loc) G' ∧ Keeps G1 G' ∧ vs.length = us.length ∧ vs.Nodup ∧ (∀ v ∈ vs, G1.length ≤ v ∧ v < G'.length) ∧ ∀ (i : Nat) v, vs[i]? = some v → P G' (j + i) v := by
    intro us
    induction us with
    | nil =>
      intro j _ G1 k1
      refine ⟨[], G1, ?_, Keeps.refl _, rfl, List.nodup_nil, by simp, by simp⟩
      unfold compF
      rw [hs G1 k1]
      rfl
    | cons u us ih =>
      intro j hu G1 k1
      obtain ⟨τ1, G2, v, h1, h2, h3, k2, b1, b2, hp⟩ := h j u (hu 0 u rfl) G1 k1
      obtain ⟨vs, G3, h4, k3, hl, nd, hb, hq⟩ := ih (j + 1) (fun i w e => by have := hu (i + 1) w (by simpa using e); rwa [show j + (i + 1) = j + 1 + i by omega] at this) G2 (k1.trans k2)
      have h3' : mF e τ1 G1 = .ok (.loc v) G2 := h3
      have := k2.len
      have := k3.len
      refine ⟨v :: vs, G3, ?_, k2.trans k3, by rw [List.length_cons, List.length_cons, hl], List.nodup_cons.mpr ⟨fun hm => ?_, nd⟩, fun x hx => ?_, fun i x hx => ?_⟩
      · unfold compF
        rw [hs G1 k1, h1]
        simp only [if_true, h2, R.noEx, R.bind_ok, h3', h4]
        rfl
      · have := hb v hm
        omega
      · rcases List.mem_cons.mp hx with rfl | hx
        · omega
        · have := hb x hx
          omega
      · cases i with
        | zero =>
          cases hx
          exact mono _ _ _ _ k3 hp
        | succ i =>
          have := hq i x (by simpa using hx)
          rwa [show j + 1 + i = j + (i + 1) by omega] at this
  obtain ⟨vs, G', a, b, c', d, e', f⟩ := key ws 0 (fun i w e => by rw [Nat.zero_add]; exact e) G (Keeps.refl _)
  exact ⟨vs, G', a, b, c', d, e', fun i v hv => by have := f i v hv; rwa [Nat.zero_add] at this⟩
end Sy
set_option Elab.async false
set_option linter.all false
set_option maxRecDepth 100000
set_option maxHeartbeats 4000000
namespace Lk09
open PySem PySem.Spec PyProof.Rows L2 Sy
def topS (i : Nat) : Stmt := PySem.Challenge.pw_cellfolio_k09_cut_and_thinned.main.body.getD i (.Pass ⟨0, 0, 0, 0⟩)
abbrev qs : List Str := ["_law_steps_right.<locals>.<lambda>", "law.<locals>.<lambda>"]
abbrev names : List Str := ["FolioError", "BadPicture", "BadSize", "OutOfPlace"]
abbrev it : ITab := [(1, .own 1, true), (1, .own 2, false), (1, .own 3, false), (1, .ty "ValueError", true), (2, .own 1, false), (2, .own 2, true), (2, .own 3, false), (2, .ty "ValueError", true), (3, .own 1, false), (3, .own 2, false), (3, .own 3, true), (3, .ty "ValueError", true)]
abbrev xt : XTab := [(1, 0, true), (2, 0, true), (3, 0, true)]
structure Tx (K : PySem.W.Frag) (mg : Str → Option Value) (ca : Nat → Addr) : Prop where
  n_ValueError : mg "ValueError" = none
  n_all : mg "all" = none
  n_bool : mg "bool" = none
  n_int : mg "int" = none
  n_isinstance : mg "isinstance" = none
  n_len : mg "len" = none
  n_list : mg "list" = none
  n_range : mg "range" = none
  n_zip : mg "zip" = none
  k_MOST_CELL : KonW K mg ca "MOST_CELL" (W.int 15)
  k_MOST_SIDE : KonW K mg ca "MOST_SIDE" (W.int 24)
  g_FolioError : mg "FolioError" = some (.ref (ca 0))
  g_BadPicture : mg "BadPicture" = some (.ref (ca 1))
  g_BadSize : mg "BadSize" = some (.ref (ca 2))
  g_OutOfPlace : mg "OutOfPlace" = some (.ref (ca 3))
  e_BadPicture : ExW K mg ca "BadPicture" 1
  e_BadSize : ExW K mg ca "BadSize" 2
  e_OutOfPlace : ExW K mg ca "OutOfPlace" 3
  E : Exs K ca it xt
abbrev c_MOST_CELL : M T := mC (W.int 15)
abbrev c_MOST_SIDE : M T := mC (W.int 24)
section
variable {P : Program} {w : World} {K : PySem.W.Frag} {mg : Str → Option Value} {base : Heap} {ca : Nat → Addr}
abbrev s_is_among : Stmt := topS 8
abbrev N_is_among : List Str := ["thing", "least", "most"]
abbrev P_is_among : List Str := ["thing", "least", "most"]
theorem sc_is_among : FnScope N_is_among P_is_among (defScope s_is_among) := ⟨rfl, rfl, rfl, by decide +kernel, rfl, by decide +kernel, by decide +kernel⟩
noncomputable def b_is_among : MS :=
  (sRet (mAndV (mBi fIsi (mConsT (mVar 0) (mConsT (mC (.ty "int")) mNilT))) (mAndV (mNotV (mBi fIsi (mConsT (mVar 0) (mConsT (mC (.ty "bool")) mNilT)))) (mChain fLe fLe (mVar 1) (mVar 0) (mVar 2)))))
noncomputable def m_is_among : List W → GH → R W := mDef 3 b_is_among
theorem ok_is_among {f : Addr} {fd : FuncData} {dvs : List V} (F : FunD K "is_among" "is_among" (defArgs s_is_among) (defBody s_is_among) (defScope s_is_among) dvs [] f fd) (T : Tx K mg ca) : FnOk P w K mg base (L2N.CX P w) 1 f fd P_is_among (spM K ca 3 m_is_among) := by
  refine def_okD (N := N_is_among) F sc_is_among fun cdv A outer s H E hr => ?_
  have hu := hr.units
  have hu5 := hu_five hr
  have tk : L2N.Takes (cxOf (L2N.CX P w) P w K mg base N_is_among "is_among" (defScope s_is_among) f cdv A outer s H E) (fun c d _ H => E c d H) := L2N.takes_of rfl rfl rfl rfl
  exact (b_one (s_ret (v_and (s_bi call_isi says_isi (by rfl) T.n_isinstance bt_isinstance (c_cons (s_var (i := 0) rfl (.inl rfl)) (c_cons (s_ty (by rfl) T.n_int bt_int) c_nil))) (v_and (v_not (s_bi call_isi says_isi (by rfl) T.n_isinstance bt_isinstance (c_cons (s_var (i := 0) rfl (.inl rfl)) (c_cons (s_ty (by rfl) T.n_bool bt_bool) c_nil)))) (v_one (s_chain op_le op_le says_C says_C (s_var (i := 1) rfl (.inl rfl)) (s_var (i := 0) rfl (.inl rfl)) (s_var (i := 2) rfl (.inl rfl))))))))
abbrev s_is_cell : Stmt := topS 9
abbrev N_is_cell : List Str := ["thing"]
abbrev P_is_cell : List Str := ["thing"]
theorem sc_is_cell : FnScope N_is_cell P_is_cell (defScope s_is_cell) := ⟨rfl, rfl, rfl, by decide +kernel, rfl, by decide +kernel, by decide +kernel⟩
noncomputable def b_is_cell : MS :=
  (sRet (mCall m_is_among [] (mCons (mVar 0) (mCons (mC (.int 0)) (mCons c_MOST_CELL mNil)))))
noncomputable def m_is_cell : List W → GH → R W := mDef 1 b_is_cell
theorem ok_is_cell {f : Addr} {fd : FuncData} {dvs : List V} (F : FunD K "is_cell" "is_cell" (defArgs s_is_cell) (defBody s_is_cell) (defScope s_is_cell) dvs [] f fd) (T : Tx K mg ca) (C_is_among : Callable P w K mg base ca 1 "is_among" P_is_among [] m_is_among) : FnOk P w K mg base (L2N.CX P w) 2 f fd P_is_cell (spM K ca 1 m_is_cell) := by
  refine def_okD (N := N_is_cell) F sc_is_cell fun cdv A outer s H E hr => ?_
  have hu := hr.units
  have hu5 := hu_five hr
  have tk : L2N.Takes (cxOf (L2N.CX P w) P w K mg base N_is_cell "is_cell" (defScope s_is_cell) f cdv A outer s H E) (fun c d _ H => E c d H) := L2N.takes_of rfl rfl rfl rfl
  exact (b_one (s_ret (s_call C_is_among (hr.mono (by decide)) (by rfl) tk (a_cons (s_var (i := 0) rfl (.inl rfl)) (a_cons s_int (a_cons (s_glob (by rfl) T.k_MOST_CELL) a_nil))) (len_dws (len_cons (len_cons (len_cons len_nil))) rfl))))
abbrev s_are_cells : Stmt := topS 10
abbrev N_are_cells : List Str := ["thing", "one"]
abbrev P_are_cells : List Str := ["thing"]
theorem sc_are_cells : FnScope N_are_cells P_are_cells (defScope s_are_cells) := ⟨rfl, rfl, rfl, by decide +kernel, rfl, by decide +kernel, by decide +kernel⟩
noncomputable def b_are_cells : MS :=
  (sRet (mAndV (mBi fIsi (mConsT (mVar 0) (mConsT (mC (.ty "list")) mNilT))) (mBi fAll (mConsT (mComp (miA (mVar 0)) (gN 1) mYes (mCall m_is_cell [] (mCons (mVar 1) mNil)) [1]) mNilT))))
noncomputable def m_are_cells : List W → GH → R W := mDef 2 b_are_cells
theorem ok_are_cells {f : Addr} {fd : FuncData} {dvs : List V} (F : FunD K "are_cells" "are_cells" (defArgs s_are_cells) (defBody s_are_cells) (defScope s_are_cells) dvs [] f fd) (T : Tx K mg ca) (C_is_cell : Callable P w K mg base ca 2 "is_cell" P_is_cell [] m_is_cell) : FnOk P w K mg base (L2N.CX P w) 3 f fd P_are_cells (spM K ca 1 m_are_cells) := by
  refine def_okD (N := N_are_cells) F sc_are_cells fun cdv A outer s H E hr => ?_
  have hu := hr.units
  have hu5 := hu_five hr
  have tk : L2N.Takes (cxOf (L2N.CX P w) P w K mg base N_are_cells "are_cells" (defScope s_are_cells) f cdv A outer s H E) (fun c d _ H => E c d H) := L2N.takes_of rfl rfl rfl rfl
  exact (b_one (s_ret (v_and (s_bi call_isi says_isi (by rfl) T.n_isinstance bt_isinstance (c_cons (s_var (i := 0) rfl (.inl rfl)) (c_cons (s_ty (by rfl) T.n_list bt_list) c_nil))) (v_one (s_bi (cr_all rfl) says_all (by rfl) T.n_all bt_all (c_cons (s_lc (own := [("one", 1)]) rfl sc_are_cells.nd (i_any (s_var (i := 0) rfl (.inl rfl))) (blkOk_by (N := N_are_cells) (sc := defScope s_are_cells) (by decide +kernel)) (fun _ _ _ _ _ => (pg_name (i := 1) sc_are_cells.nd rfl (by first | exact .inl rfl | exact .inr rfl))) tgt_name (own_name (by decide)) (fun _ _ _ _ _ => ts_nil) (fun _ _ _ _ _ => (s_call C_is_cell (hr.mono (by decide)) (by rfl) takesN (a_cons (s_var (i := 1) rfl (by first | exact .inl rfl | exact .inr (.inl rfl))) a_nil) (len_dws (len_cons len_nil) rfl)))) c_nil))))))
abbrev s_is_picture : Stmt := topS 11
abbrev N_is_picture : List Str := ["thing", "row"]
abbrev P_is_picture : List Str := ["thing"]
theorem sc_is_picture : FnScope N_is_picture P_is_picture (defScope s_is_picture) := ⟨rfl, rfl, rfl, by decide +kernel, rfl, by decide +kernel, by decide +kernel⟩
noncomputable def b_is_picture : MS :=
  (sSeq (sIf (mOr (mNot (mTru (mBi fIsi (mConsT (mVar 0) (mConsT (mC (.ty "list")) mNilT))))) (mOr (mNot (mB (mChain fLe fLe (mC (.int 1)) (mBi fLen (mConsT (mVar 0) mNilT)) c_MOST_SIDE))) (mNot (mTru (mBi fAll (mConsT (mComp (miA (mVar 0)) (gN 1) mYes (mCall m_are_cells [] (mCons (mVar 1) mNil)) [1]) mNilT)))))) (sRet (mC (.bl false))) sNext) (sRet (mAndV (mChain fLe fLe (mC (.int 1)) (mBi fLen (mConsT (mBin fIx (mVar 0) (mC (.int 0))) mNilT)) c_MOST_SIDE) (mBi fAll (mConsT (mComp (miA (mVar 0)) (gN 1) mYes (mBin fEq (mBi fLen (mConsT (mVar 1) mNilT)) (mBi fLen (mConsT (mBin fIx (mVar 0) (mC (.int 0))) mNilT))) [1]) mNilT)))))
noncomputable def m_is_picture : List W → GH → R W := mDef 2 b_is_picture
theorem ok_is_picture {f : Addr} {fd : FuncData} {dvs : List V} (F : FunD K "is_picture" "is_picture" (defArgs s_is_picture) (defBody s_is_picture) (defScope s_is_picture) dvs [] f fd) (T : Tx K mg ca) (C_are_cells : Callable P w K mg base ca 3 "are_cells" P_are_cells [] m_are_cells) : FnOk P w K mg base (L2N.CX P w) 4 f fd P_is_picture (spM K ca 1 m_is_picture) := by
  refine def_okD (N := N_is_picture) F sc_is_picture fun cdv A outer s H E hr => ?_
  have hu := hr.units
  have hu5 := hu_five hr
  have tk : L2N.Takes (cxOf (L2N.CX P w) P w K mg base N_is_picture "is_picture" (defScope s_is_picture) f cdv A outer s H E) (fun c d _ H => E c d H) := L2N.takes_of rfl rfl rfl rfl
  exact (b_cons (s_if (PW.pt (w_or (s_tnot (s_truth (s_bi call_isi says_isi (by rfl) T.n_isinstance bt_isinstance (c_cons (s_var (i := 0) rfl (.inr (.inl rfl))) (c_cons (s_ty (by rfl) T.n_list bt_list) c_nil))))) (w_or (s_tnot (s_testChain op_le op_le says_C says_C s_int (s_bi call_len says_len (by rfl) T.n_len bt_len (c_cons (s_var (i := 0) rfl (.inr (.inl rfl))) c_nil)) (s_glob (by rfl) T.k_MOST_SIDE))) (w_or1 (s_tnot (s_truth (s_bi (cr_all rfl) says_all (by rfl) T.n_all bt_all (c_cons (s_lc (own := [("row", 1)]) rfl sc_is_picture.nd (i_any (s_var (i := 0) rfl (.inr (.inl rfl)))) (blkOk_by (N := N_is_picture) (sc := defScope s_is_picture) (by decide +kernel)) (fun _ _ _ _ _ => (pg_name (i := 1) sc_is_picture.nd rfl (by first | exact .inl rfl | exact .inr rfl))) tgt_name (own_name (by decide)) (fun _ _ _ _ _ => ts_nil) (fun _ _ _ _ _ => (s_call C_are_cells (hr.mono (by decide)) (by rfl) takesN (a_cons (s_var (i := 1) rfl (by first | exact .inl rfl | exact .inr (.inl rfl))) a_nil) (len_dws (len_cons len_nil) rfl)))) c_nil)))))))) (b_one (s_ret s_bl)) b_nil) (b_one (s_ret (v_and (s_chain op_le op_le says_C says_C s_int (s_bi call_len says_len (by rfl) T.n_len bt_len (c_cons (s_ix (s_var (i := 0) rfl (.inr (.inl rfl))) s_int) c_nil)) (s_glob (by rfl) T.k_MOST_SIDE)) (v_one (s_bi (cr_all rfl) says_all (by rfl) T.n_all bt_all (c_cons (s_lc (own := [("row", 1)]) rfl sc_is_picture.nd (i_any (s_var (i := 0) rfl (.inr (.inl rfl)))) (blkOk_by (N := N_is_picture) (sc := defScope s_is_picture) (by decide +kernel)) (fun _ _ _ _ _ => (pg_name (i := 1) sc_is_picture.nd rfl (by first | exact .inl rfl | exact .inr rfl))) tgt_name (own_name (by decide)) (fun _ _ _ _ _ => ts_nil) (fun _ _ _ _ _ => (s_cmp (op_eqA hu) says_eq (s_bi call_len says_len (by rfl) T.n_len bt_len (c_cons (s_var (i := 1) rfl (by first | exact .inl rfl | exact .inr (.inl rfl))) c_nil)) (s_bi call_len says_len (by rfl) T.n_len bt_len (c_cons (s_ix (s_var (i := 0) rfl (by first | exact .inr (.inl rfl) | exact .inr (.inr rfl) | exact .inl rfl)) s_int) c_nil)) (nomark _)))) c_nil)))))))
abbrev s_need_picture : Stmt := topS 12
abbrev N_need_picture : List Str := ["picture"]
abbrev P_need_picture : List Str := ["picture"]
theorem sc_need_picture : FnScope N_need_picture P_need_picture (defScope s_need_picture) := ⟨rfl, rfl, rfl, by decide +kernel, rfl, by decide +kernel, by decide +kernel⟩
noncomputable def b_need_picture : MS :=
  (sIf (mNot (mTru (mCall m_is_picture [] (mCons (mVar 0) mNil)))) (sRaise 1) sNext)
noncomputable def m_need_picture : List W → GH → R W := mDef 1 b_need_picture
theorem ok_need_picture {f : Addr} {fd : FuncData} {dvs : List V} (F : FunD K "need_picture" "need_picture" (defArgs s_need_picture) (defBody s_need_picture) (defScope s_need_picture) dvs [] f fd) (T : Tx K mg ca) (C_is_picture : Callable P w K mg base ca 4 "is_picture" P_is_picture [] m_is_picture) : FnOk P w K mg base (L2N.CX P w) 5 f fd P_need_picture (spM K ca 1 m_need_picture) := by
  refine def_okD (N := N_need_picture) F sc_need_picture fun cdv A outer s H E hr => ?_
  have hu := hr.units
  have hu5 := hu_five hr
  have tk : L2N.Takes (cxOf (L2N.CX P w) P w K mg base N_need_picture "need_picture" (defScope s_need_picture) f cdv A outer s H E) (fun c d _ H => E c d H) := L2N.takes_of rfl rfl rfl rfl
  exact (b_one (s_if (s_tnot (s_truth (s_call C_is_picture (hr.mono (by decide)) (by rfl) tk (a_cons (s_var (i := 0) rfl (.inl rfl)) a_nil) (len_dws (len_cons len_nil) rfl)))) (b_one (s_raise rfl tk T.e_BadPicture (by rfl))) b_nil))
abbrev s_part_of : Stmt := topS 14
abbrev N_part_of : List Str := ["picture", "left", "top", "wide", "high", "row"]
abbrev P_part_of : List Str := ["picture", "left", "top", "wide", "high"]
theorem sc_part_of : FnScope N_part_of P_part_of (defScope s_part_of) := ⟨rfl, rfl, rfl, by decide +kernel, rfl, by decide +kernel, by decide +kernel⟩
noncomputable def b_part_of : MS :=
  (sRet (mComp (miA (mSl (mVar 0) (mP (mVar 2)) (mP (mBin fAdd (mVar 2) (mVar 4))))) (gN 5) mYes (mSl (mVar 5) (mP (mVar 1)) (mP (mBin fAdd (mVar 1) (mVar 3)))) [5]))
noncomputable def m_part_of : List W → GH → R W := mDef 6 b_part_of
theorem ok_part_of {f : Addr} {fd : FuncData} {dvs : List V} (F : FunD K "part_of" "part_of" (defArgs s_part_of) (defBody s_part_of) (defScope s_part_of) dvs [] f fd) (T : Tx K mg ca) : FnOk P w K mg base (L2N.CX P w) 1 f fd P_part_of (spM K ca 5 m_part_of) := by
  refine def_okD (N := N_part_of) F sc_part_of fun cdv A outer s H E hr => ?_
  have hu := hr.units
  have hu5 := hu_five hr
  have tk : L2N.Takes (cxOf (L2N.CX P w) P w K mg base N_part_of "part_of" (defScope s_part_of) f cdv A outer s H E) (fun c d _ H => E c d H) := L2N.takes_of rfl rfl rfl rfl
  exact (b_one (s_ret (s_lc (own := [("row", 5)]) rfl sc_part_of.nd (i_any (s_sl (s_var (i := 0) rfl (.inl rfl)) (o_some (s_var (i := 2) rfl (.inl rfl))) (o_some (s_bin op_addA says_add (s_var (i := 2) rfl (.inl rfl)) (s_var (i := 4) rfl (.inl rfl)))))) (blkOk_by (N := N_part_of) (sc := defScope s_part_of) (by decide +kernel)) (fun _ _ _ _ _ => (pg_name (i := 5) sc_part_of.nd rfl (by first | exact .inl rfl | exact .inr rfl))) tgt_name (own_name (by decide)) (fun _ _ _ _ _ => ts_nil) (fun _ _ _ _ _ => (s_sl (s_var (i := 5) rfl (by first | exact .inl rfl | exact .inr (.inl rfl))) (o_some (s_var (i := 1) rfl (by first | exact .inr (.inl rfl) | exact .inr (.inr rfl) | exact .inl rfl))) (o_some (s_bin op_addA says_add (s_var (i := 1) rfl (by first | exact .inr (.inl rfl) | exact .inr (.inr rfl) | exact .inl rfl)) (s_var (i := 3) rfl (by first | exact .inr (.inl rfl) | exact .inr (.inr rfl) | exact .inl rfl)))))))))
abbrev s_cut_out : Stmt := topS 15
abbrev N_cut_out : List Str := ["picture", "left", "top", "wide", "high"]
abbrev P_cut_out : List Str := ["picture", "left", "top", "wide", "high"]
theorem sc_cut_out : FnScope N_cut_out P_cut_out (defScope s_cut_out) := ⟨rfl, rfl, rfl, by decide +kernel, rfl, by decide +kernel, by decide +kernel⟩
noncomputable def b_cut_out : MS :=
  (sSeq (sDrop (mCall m_need_picture [] (mCons (mVar 0) mNil))) (sSeq (sIf (mOr (mNot (mTru (mCall m_is_among [] (mCons (mVar 1) (mCons (mC (.int 0)) (mCons (mBin fSub (mBi fLen (mConsT (mBin fIx (mVar 0) (mC (.int 0))) mNilT)) (mC (.int 1))) mNil)))))) (mNot (mTru (mCall m_is_among [] (mCons (mVar 2) (mCons (mC (.int 0)) (mCons (mBin fSub (mBi fLen (mConsT (mVar 0) mNilT)) (mC (.int 1))) mNil))))))) (sRaise 3) sNext) (sSeq (sIf (mOr (mNot (mTru (mCall m_is_among [] (mCons (mVar 3) (mCons (mC (.int 1)) (mCons (mBin fSub (mBi fLen (mConsT (mBin fIx (mVar 0) (mC (.int 0))) mNilT)) (mVar 1)) mNil)))))) (mNot (mTru (mCall m_is_among [] (mCons (mVar 4) (mCons (mC (.int 1)) (mCons (mBin fSub (mBi fLen (mConsT (mVar 0) mNilT)) (mVar 2)) mNil))))))) (sRaise 3) sNext) (sRet (mCall m_part_of [] (mCons (mVar 0) (mCons (mVar 1) (mCons (mVar 2) (mCons (mVar 3) (mCons (mVar 4) mNil))))))))))
noncomputable def m_cut_out : List W → GH → R W := mDef 5 b_cut_out
theorem ok_cut_out {f : Addr} {fd : FuncData} {dvs : List V} (F : FunD K "cut_out" "cut_out" (defArgs s_cut_out) (defBody s_cut_out) (defScope s_cut_out) dvs [] f fd) (T : Tx K mg ca) (C_is_among : Callable P w K mg base ca 1 "is_among" P_is_among [] m_is_among) (C_need_picture : Callable P w K mg base ca 5 "need_picture" P_need_picture [] m_need_picture) (C_part_of : Callable P w K mg base ca 1 "part_of" P_part_of [] m_part_of) : FnOk P w K mg base (L2N.CX P w) 6 f fd P_cut_out (spM K ca 5 m_cut_out) := by
  refine def_okD (N := N_cut_out) F sc_cut_out fun cdv A outer s H E hr => ?_
  have hu := hr.units
  have hu5 := hu_five hr
  have tk : L2N.Takes (cxOf (L2N.CX P w) P w K mg base N_cut_out "cut_out" (defScope s_cut_out) f cdv A outer s H E) (fun c d _ H => E c d H) := L2N.takes_of rfl rfl rfl rfl
  exact (b_cons (s_expr (s_call C_need_picture (hr.mono (by decide)) (by rfl) tk (a_cons (s_var (i := 0) rfl (.inl rfl)) a_nil) (len_dws (len_cons len_nil) rfl))) (b_cons (s_if (PW.pt (w_or (s_tnot (s_truth (s_call C_is_among (hr.mono (by decide)) (by rfl) tk (a_cons (s_var (i := 1) rfl (.inl rfl)) (a_cons s_int (a_cons (s_bin op_sub says_sub (s_bi call_len says_len (by rfl) T.n_len bt_len (c_cons (s_ix (s_var (i := 0) rfl (.inl rfl)) s_int) c_nil)) s_int) a_nil))) (len_dws (len_cons (len_cons (len_cons len_nil))) rfl)))) (w_or1 (s_tnot (s_truth (s_call C_is_among (hr.mono (by decide)) (by rfl) tk (a_cons (s_var (i := 2) rfl (.inl rfl)) (a_cons s_int (a_cons (s_bin op_sub says_sub (s_bi call_len says_len (by rfl) T.n_len bt_len (c_cons (s_var (i := 0) rfl (.inl rfl)) c_nil)) s_int) a_nil))) (len_dws (len_cons (len_cons (len_cons len_nil))) rfl))))))) (b_one (s_raise rfl tk T.e_OutOfPlace (by rfl))) b_nil) (b_cons (s_if (PW.pt (w_or (s_tnot (s_truth (s_call C_is_among (hr.mono (by decide)) (by rfl) tk (a_cons (s_var (i := 3) rfl (.inl rfl)) (a_cons s_int (a_cons (s_bin op_sub says_sub (s_bi call_len says_len (by rfl) T.n_len bt_len (c_cons (s_ix (s_var (i := 0) rfl (.inl rfl)) s_int) c_nil)) (s_var (i := 1) rfl (.inl rfl))) a_nil))) (len_dws (len_cons (len_cons (len_cons len_nil))) rfl)))) (w_or1 (s_tnot (s_truth (s_call C_is_among (hr.mono (by decide)) (by rfl) tk (a_cons (s_var (i := 4) rfl (.inl rfl)) (a_cons s_int (a_cons (s_bin op_sub says_sub (s_bi call_len says_len (by rfl) T.n_len bt_len (c_cons (s_var (i := 0) rfl (.inl rfl)) c_nil)) (s_var (i := 2) rfl (.inl rfl))) a_nil))) (len_dws (len_cons (len_cons (len_cons len_nil))) rfl))))))) (b_one (s_raise rfl tk T.e_OutOfPlace (by rfl))) b_nil) (b_one (s_ret (s_call C_part_of (hr.mono (by decide)) (by rfl) tk (a_cons (s_var (i := 0) rfl (.inl rfl)) (a_cons (s_var (i := 1) rfl (.inl rfl)) (a_cons (s_var (i := 2) rfl (.inl rfl)) (a_cons (s_var (i := 3) rfl (.inl rfl)) (a_cons (s_var (i := 4) rfl (.inl rfl)) a_nil))))) (len_dws (len_cons (len_cons (len_cons (len_cons (len_cons len_nil))))) rfl)))))))
abbrev s_need_steps : Stmt := topS 16
abbrev N_need_steps : List Str := ["across", "down", "step"]
abbrev P_need_steps : List Str := ["across", "down"]
theorem sc_need_steps : FnScope N_need_steps P_need_steps (defScope s_need_steps) := ⟨rfl, rfl, rfl, by decide +kernel, rfl, by decide +kernel, by decide +kernel⟩
noncomputable def b_need_steps : MS :=
  (sFor (miA (mTup (mCons (mVar 0) (mCons (mVar 1) mNil)))) (gN 2) (sIf (mOr (mNot (mTru (mBi fIsi (mConsT (mVar 2) (mConsT (mC (.ty "int")) mNilT))))) (mOr (mTru (mBi fIsi (mConsT (mVar 2) (mConsT (mC (.ty "bool")) mNilT)))) (mB (mBin fLt (mVar 2) (mC (.int 1)))))) (sRaise 2) sNext))
noncomputable def m_need_steps : List W → GH → R W := mDef 3 b_need_steps
theorem ok_need_steps {f : Addr} {fd : FuncData} {dvs : List V} (F : FunD K "need_steps" "need_steps" (defArgs s_need_steps) (defBody s_need_steps) (defScope s_need_steps) dvs [] f fd) (T : Tx K mg ca) : FnOk P w K mg base (L2N.CX P w) 1 f fd P_need_steps (spM K ca 2 m_need_steps) := by
  refine def_okD (N := N_need_steps) F sc_need_steps fun cdv A outer s H E hr => ?_
  have hu := hr.units
  have hu5 := hu_five hr
  have tk : L2N.Takes (cxOf (L2N.CX P w) P w K mg base N_need_steps "need_steps" (defScope s_need_steps) f cdv A outer s H E) (fun c d _ H => E c d H) := L2N.takes_of rfl rfl rfl rfl
  exact (b_one (s_for (passes_of rfl) rfl (i_any (s_tup (a_cons (s_var (i := 0) rfl (.inl rfl)) (a_cons (s_var (i := 1) rfl (.inl rfl)) a_nil)))) (g_name (i := 2) sc_need_steps.nd rfl (.inl rfl)) (b_one (s_if (PW.pt (w_or (s_tnot (s_truth (s_bi call_isi says_isi (by rfl) T.n_isinstance bt_isinstance (c_cons (s_var (i := 2) rfl (.inl rfl)) (c_cons (s_ty (by rfl) T.n_int bt_int) c_nil))))) (w_or (s_truth (s_bi call_isi says_isi (by rfl) T.n_isinstance bt_isinstance (c_cons (s_var (i := 2) rfl (.inl rfl)) (c_cons (s_ty (by rfl) T.n_bool bt_bool) c_nil)))) (w_or1 (s_testCmp op_lt says_C (s_var (i := 2) rfl (.inl rfl)) s_int (nomark _)))))) (b_one (s_raise rfl tk T.e_BadSize (by rfl))) b_nil))))
abbrev s_thinned : Stmt := topS 17
abbrev N_thinned : List Str := ["picture", "across", "down", "row"]
abbrev P_thinned : List Str := ["picture", "across", "down"]
theorem sc_thinned : FnScope N_thinned P_thinned (defScope s_thinned) := ⟨rfl, rfl, rfl, by decide +kernel, rfl, by decide +kernel, by decide +kernel⟩
noncomputable def b_thinned : MS :=
  (sSeq (sDrop (mCall m_need_picture [] (mCons (mVar 0) mNil))) (sSeq (sDrop (mCall m_need_steps [] (mCons (mVar 1) (mCons (mVar 2) mNil)))) (sRet (mComp (miA (mStepL (mVar 0) (mP (mVar 2)))) (gN 3) mYes (mStepL (mVar 3) (mP (mVar 1))) [3]))))
noncomputable def m_thinned : List W → GH → R W := mDef 4 b_thinned
theorem ok_thinned {f : Addr} {fd : FuncData} {dvs : List V} (F : FunD K "thinned" "thinned" (defArgs s_thinned) (defBody s_thinned) (defScope s_thinned) dvs [] f fd) (T : Tx K mg ca) (C_need_picture : Callable P w K mg base ca 5 "need_picture" P_need_picture [] m_need_picture) (C_need_steps : Callable P w K mg base ca 1 "need_steps" P_need_steps [] m_need_steps) : FnOk P w K mg base (L2N.CX P w) 6 f fd P_thinned (spM K ca 3 m_thinned) := by
  refine def_okD (N := N_thinned) F sc_thinned fun cdv A outer s H E hr => ?_
  have hu := hr.units
  have hu5 := hu_five hr
  have tk : L2N.Takes (cxOf (L2N.CX P w) P w K mg base N_thinned "thinned" (defScope s_thinned) f cdv A outer s H E) (fun c d _ H => E c d H) := L2N.takes_of rfl rfl rfl rfl
  exact (b_cons (s_expr (s_call C_need_picture (hr.mono (by decide)) (by rfl) tk (a_cons (s_var (i := 0) rfl (.inl rfl)) a_nil) (len_dws (len_cons len_nil) rfl))) (b_cons (s_expr (s_call C_need_steps (hr.mono (by decide)) (by rfl) tk (a_cons (s_var (i := 1) rfl (.inr (.inl rfl))) (a_cons (s_var (i := 2) rfl (.inl rfl)) a_nil)) (len_dws (len_cons (len_cons len_nil)) rfl))) (b_one (s_ret (s_lc (own := [("row", 3)]) rfl sc_thinned.nd (i_any (s_stepL (s_var (i := 0) rfl (.inl rfl)) (o_some (s_var (i := 2) rfl (.inl rfl))))) (blkOk_by (N := N_thinned) (sc := defScope s_thinned) (by decide +kernel)) (fun _ _ _ _ _ => (pg_name (i := 3) sc_thinned.nd rfl (by first | exact .inl rfl | exact .inr rfl))) tgt_name (own_name (by decide)) (fun _ _ _ _ _ => ts_nil) (fun _ _ _ _ _ => (s_stepL (s_var (i := 3) rfl (by first | exact .inl rfl | exact .inr (.inl rfl))) (o_some (s_var (i := 1) rfl (by first | exact .inr (.inl rfl) | exact .inr (.inr rfl) | exact .inl rfl))))))))))
abbrev s_widened : Stmt := topS 18
abbrev N_widened : List Str := ["picture", "across", "down", "cell", "found", "row", "wide", "k"]
abbrev P_widened : List Str := ["picture", "across", "down"]
theorem sc_widened : FnScope N_widened P_widened (defScope s_widened) := ⟨rfl, rfl, rfl, by decide +kernel, rfl, by decide +kernel, by decide +kernel⟩
noncomputable def b_widened : MS :=
  (sSeq (sDrop (mCall m_need_picture [] (mCons (mVar 0) mNil))) (sSeq (sDrop (mCall m_need_steps [] (mCons (mVar 1) (mCons (mVar 2) mNil)))) (sSeq (sIf (mOr (mB (mBin fGt (mBin fMul (mBi fLen (mConsT (mBin fIx (mVar 0) (mC (.int 0))) mNilT)) (mVar 1)) c_MOST_SIDE)) (mB (mBin fGt (mBin fMul (mBi fLen (mConsT (mVar 0) mNilT)) (mVar 2)) c_MOST_SIDE))) (sRaise 2) sNext) (sSeq (sSet 4 (mLst mNil)) (sSeq (sFor (miA (mVar 0)) (gN 5) (sSeq (sSet 6 (mLst mNil)) (sSeq (sFor (miA (mVar 5)) (gN 3) (sAug 6 fAugAdd (mBin fMul (mLst (mCons (mVar 3) mNil)) (mVar 1)))) (sAug 4 fAugAdd (mComp (miR (mCons (mVar 2) mNil)) (gN 7) mYes (mBi fList (mConsT (mVar 6) mNilT)) [7]))))) (sRet (mVar 4)))))))
noncomputable def m_widened : List W → GH → R W := mDef 8 b_widened
theorem ok_widened {f : Addr} {fd : FuncData} {dvs : List V} (F : FunD K "widened" "widened" (defArgs s_widened) (defBody s_widened) (defScope s_widened) dvs [] f fd) (T : Tx K mg ca) (C_need_picture : Callable P w K mg base ca 5 "need_picture" P_need_picture [] m_need_picture) (C_need_steps : Callable P w K mg base ca 1 "need_steps" P_need_steps [] m_need_steps) : FnOk P w K mg base (L2N.CX P w) 6 f fd P_widened (spM K ca 3 m_widened) := by
  refine def_okD (N := N_widened) F sc_widened fun cdv A outer s H E hr => ?_
  have hu := hr.units
  have hu5 := hu_five hr
  have tk : L2N.Takes (cxOf (L2N.CX P w) P w K mg base N_widened "widened" (defScope s_widened) f cdv A outer s H E) (fun c d _ H => E c d H) := L2N.takes_of rfl rfl rfl rfl
  exact (b_cons (s_expr (s_call C_need_picture (hr.mono (by decide)) (by rfl) tk (a_cons (s_var (i := 0) rfl (.inl rfl)) a_nil) (len_dws (len_cons len_nil) rfl))) (b_cons (s_expr (s_call C_need_steps (hr.mono (by decide)) (by rfl) tk (a_cons (s_var (i := 1) rfl (.inl rfl)) (a_cons (s_var (i := 2) rfl (.inl rfl)) a_nil)) (len_dws (len_cons (len_cons len_nil)) rfl))) (b_cons (s_if (PW.pt (w_or (s_testCmp op_gt says_C (s_bin op_mulA says_mul (s_bi call_len says_len (by rfl) T.n_len bt_len (c_cons (s_ix (s_var (i := 0) rfl (.inl rfl)) s_int) c_nil)) (s_var (i := 1) rfl (.inl rfl))) (s_glob (by rfl) T.k_MOST_SIDE) (nomark _)) (w_or1 (s_testCmp op_gt says_C (s_bin op_mulA says_mul (s_bi call_len says_len (by rfl) T.n_len bt_len (c_cons (s_var (i := 0) rfl (.inl rfl)) c_nil)) (s_var (i := 2) rfl (.inl rfl))) (s_glob (by rfl) T.k_MOST_SIDE) (nomark _))))) (b_one (s_raise rfl tk T.e_BadSize (by rfl))) b_nil) (b_cons (s_set (i := 4) sc_widened.nd rfl (.inl rfl) (s_lst a_nil)) (b_cons (s_for (passes_of rfl) rfl (i_any (s_var (i := 0) rfl (.inl rfl))) (g_name (i := 5) sc_widened.nd rfl (.inl rfl)) (b_cons (s_set (i := 6) sc_widened.nd rfl (.inr rfl) (s_lst a_nil)) (b_cons (s_for (passes_of rfl) rfl (i_any (s_var (i := 5) rfl (.inl rfl))) (g_name (i := 3) sc_widened.nd rfl (.inl rfl)) (b_one (s_aug (i := 6) sc_widened.nd rfl (.inr rfl) (s_bin op_mulA says_mul (s_lst (a_cons (s_var (i := 3) rfl (.inl rfl)) a_nil)) (s_var (i := 1) rfl (.inl rfl))) aug_add says_augAdd))) (b_one (s_aug (i := 4) sc_widened.nd rfl (.inl rfl) (s_lc (own := [("k", 7)]) rfl sc_widened.nd (i_range1 (by rfl) T.n_range (a_cons (s_var (i := 2) rfl (.inl rfl)) a_nil)) (blkOk_by (N := N_widened) (sc := defScope s_widened) (by decide +kernel)) (fun _ _ _ _ _ => (pg_name (i := 7) sc_widened.nd rfl (by first | exact .inl rfl | exact .inr rfl))) tgt_name (own_name (by decide)) (fun _ _ _ _ _ => ts_nil) (fun _ _ _ _ _ => (s_bty call_list_of says_list (by rfl) T.n_list bt_list (c_cons (s_var (i := 6) rfl (by first | exact .inr (.inl rfl) | exact .inr (.inr rfl) | exact .inl rfl)) c_nil)))) aug_add says_augAdd))))) (b_one (s_ret (s_var (i := 4) rfl (.inl rfl)))))))))
abbrev s_law_cell_at : Stmt := topS 20
abbrev N_law_cell_at : List Str := ["_law_script", "_law_k"]
abbrev P_law_cell_at : List Str := ["_law_script", "_law_k"]
theorem sc_law_cell_at : FnScope N_law_cell_at P_law_cell_at (defScope s_law_cell_at) := ⟨rfl, rfl, rfl, by decide +kernel, rfl, by decide +kernel, by decide +kernel⟩
noncomputable def b_law_cell_at : MS :=
  (sSeq (sIf (mB (mBin fLt (mVar 1) (mBi fLen (mConsT (mVar 0) mNilT)))) (sRet (mBin fIx (mVar 0) (mVar 1))) sNext) (sRet (mC (.int 0))))
noncomputable def m_law_cell_at : List W → GH → R W := mDef 2 b_law_cell_at
theorem ok_law_cell_at {f : Addr} {fd : FuncData} {dvs : List V} (F : FunD K "_law_cell_at" "_law_cell_at" (defArgs s_law_cell_at) (defBody s_law_cell_at) (defScope s_law_cell_at) dvs [] f fd) (T : Tx K mg ca) : FnOk P w K mg base (L2N.CX P w) 1 f fd P_law_cell_at (spM K ca 2 m_law_cell_at) := by
  refine def_okD (N := N_law_cell_at) F sc_law_cell_at fun cdv A outer s H E hr => ?_
  have hu := hr.units
  have hu5 := hu_five hr
  have tk : L2N.Takes (cxOf (L2N.CX P w) P w K mg base N_law_cell_at "_law_cell_at" (defScope s_law_cell_at) f cdv A outer s H E) (fun c d _ H => E c d H) := L2N.takes_of rfl rfl rfl rfl
  exact (b_cons (s_if (s_testCmp op_lt says_C (s_var (i := 1) rfl (.inl rfl)) (s_bi call_len says_len (by rfl) T.n_len bt_len (c_cons (s_var (i := 0) rfl (.inl rfl)) c_nil)) (nomark _)) (b_one (s_ret (s_ix (s_var (i := 0) rfl (.inl rfl)) (s_var (i := 1) rfl (.inl rfl))))) b_nil) (b_one (s_ret s_int)))
abbrev s_law_mixed : Stmt := topS 21
abbrev N_law_mixed : List Str := ["_law_cell", "_law_k", "_law_number"]
abbrev P_law_mixed : List Str := ["_law_cell", "_law_k"]
theorem sc_law_mixed : FnScope N_law_mixed P_law_mixed (defScope s_law_mixed) := ⟨rfl, rfl, rfl, by decide +kernel, rfl, by decide +kernel, by decide +kernel⟩
noncomputable def b_law_mixed : MS :=
  (sSeq (sSet 2 (mBin fAdd (mBin fAdd (mBin fMod (mVar 0) (mC (.int 1000000007))) (mBin fMul (mC (.int 7919)) (mVar 1))) (mC (.int 13)))) (sRet (mBin fFdiv (mBin fMod (mBin fMul (mBin fMod (mBin fMul (mVar 2) (mVar 2)) (mC (.int 1000000007))) (mVar 2)) (mC (.int 998244353))) (mC (.int 11)))))
noncomputable def m_law_mixed : List W → GH → R W := mDef 3 b_law_mixed
theorem ok_law_mixed {f : Addr} {fd : FuncData} {dvs : List V} (F : FunD K "_law_mixed" "_law_mixed" (defArgs s_law_mixed) (defBody s_law_mixed) (defScope s_law_mixed) dvs [] f fd) (T : Tx K mg ca) : FnOk P w K mg base (L2N.CX P w) 1 f fd P_law_mixed (spM K ca 2 m_law_mixed) := by
  refine def_okD (N := N_law_mixed) F sc_law_mixed fun cdv A outer s H E hr => ?_
  have hu := hr.units
  have hu5 := hu_five hr
  have tk : L2N.Takes (cxOf (L2N.CX P w) P w K mg base N_law_mixed "_law_mixed" (defScope s_law_mixed) f cdv A outer s H E) (fun c d _ H => E c d H) := L2N.takes_of rfl rfl rfl rfl
  exact (b_cons (s_set (i := 2) sc_law_mixed.nd rfl (.inl rfl) (s_bin op_addA says_add (s_bin op_addA says_add (s_bin op_mod says_mod (s_var (i := 0) rfl (.inl rfl)) s_int) (s_bin op_mulA says_mul s_int (s_var (i := 1) rfl (.inl rfl)))) s_int)) (b_one (s_ret (s_bin op_fdivW says_fdiv (s_bin op_mod says_mod (s_bin op_mulA says_mul (s_bin op_mod says_mod (s_bin op_mulA says_mul (s_var (i := 2) rfl (.inl rfl)) (s_var (i := 2) rfl (.inl rfl))) s_int) (s_var (i := 2) rfl (.inl rfl))) s_int) s_int))))
abbrev s_law_picture : Stmt := topS 22
abbrev N_law_picture : List Str := ["_law_script", "_law_at", "_law_most", "_law_base", "_law_cells", "_law_high", "_law_hues", "_law_side", "_law_wide", "_law_y", "_law_x"]
abbrev P_law_picture : List Str := ["_law_script", "_law_at", "_law_most"]
theorem sc_law_picture : FnScope N_law_picture P_law_picture (defScope s_law_picture) := ⟨rfl, rfl, rfl, by decide +kernel, rfl, by decide +kernel, by decide +kernel⟩
noncomputable def b_law_picture : MS :=
  (sSeq (sSet 7 (mCall m_law_cell_at [] (mCons (mVar 0) (mCons (mVar 1) mNil)))) (sSeq (sSet 8 (mBin fAdd (mC (.int 1)) (mBin fMod (mVar 7) (mVar 2)))) (sSeq (sSet 5 (mBin fAdd (mC (.int 1)) (mBin fMod (mBin fFdiv (mVar 7) (mVar 2)) (mVar 2)))) (sSeq (sIf (mB (mBin fEq (mBin fMod (mBin fFdiv (mBin fFdiv (mVar 7) (mVar 2)) (mVar 2)) (mC (.int 8))) (mC (.int 1)))) (sSet 8 (mBin fAdd (mC (.int 1)) (mBin fMod (mBin fFdiv (mBin fFdiv (mBin fFdiv (mVar 7) (mVar 2)) (mVar 2)) (mC (.int 8))) (mC (.int 24))))) (sIf (mB (mBin fEq (mBin fMod (mBin fFdiv (mBin fFdiv (mVar 7) (mVar 2)) (mVar 2)) (mC (.int 8))) (mC (.int 2)))) (sSet 5 (mBin fAdd (mC (.int 1)) (mBin fMod (mBin fFdiv (mBin fFdiv (mBin fFdiv (mVar 7) (mVar 2)) (mVar 2)) (mC (.int 8))) (mC (.int 24))))) sNext)) (sSeq (sSet 6 (mBin fIx (mLst (mCons (mC (.int 16)) (mCons (mC (.int 2)) (mCons (mC (.int 3)) (mCons (mC (.int 4)) mNil))))) (mBin fMod (mCall m_law_cell_at [] (mCons (mVar 0) (mCons (mBin fAdd (mVar 1) (mC (.int 1))) mNil))) (mC (.int 4))))) (sSeq (sSet 3 (mBin fMod (mBin fFdiv (mCall m_law_cell_at [] (mCons (mVar 0) (mCons (mBin fAdd (mVar 1) (mC (.int 1))) mNil))) (mC (.int 4))) (mC (.int 16)))) (sSeq (sSet 4 (mCall m_law_cell_at [] (mCons (mVar 0) (mCons (mBin fAdd (mVar 1) (mC (.int 2))) mNil)))) (sRet (mComp (miR (mCons (mVar 5) mNil)) (gN 9) mYes (mComp (miR (mCons (mVar 8) mNil)) (gN 10) mYes (mBin fMod (mBin fAdd (mVar 3) (mBin fMod (mCall m_law_mixed [] (mCons (mVar 4) (mCons (mBin fAdd (mBin fMul (mC (.int 24)) (mVar 9)) (mVar 10)) mNil))) (mVar 6))) (mC (.int 16))) [10]) [9])))))))))
noncomputable def m_law_picture : List W → GH → R W := mDef 11 b_law_picture
theorem ok_law_picture {f : Addr} {fd : FuncData} {dvs : List V} (F : FunD K "_law_picture" "_law_picture" (defArgs s_law_picture) (defBody s_law_picture) (defScope s_law_picture) dvs [] f fd) (T : Tx K mg ca) (C_law_cell_at : Callable P w K mg base ca 1 "_law_cell_at" P_law_cell_at [] m_law_cell_at) (C_law_mixed : Callable P w K mg base ca 1 "_law_mixed" P_law_mixed [] m_law_mixed) : FnOk P w K mg base (L2N.CX P w) 2 f fd P_law_picture (spM K ca 3 m_law_picture) := by
  refine def_okD (N := N_law_picture) F sc_law_picture fun cdv A outer s H E hr => ?_
  have hu := hr.units
  have hu5 := hu_five hr
  have tk : L2N.Takes (cxOf (L2N.CX P w) P w K mg base N_law_picture "_law_picture" (defScope s_law_picture) f cdv A outer s H E) (fun c d _ H => E c d H) := L2N.takes_of rfl rfl rfl rfl
  exact (b_cons (s_set (i := 7) sc_law_picture.nd rfl (.inl rfl) (s_call C_law_cell_at (hr.mono (by decide)) (by rfl) tk (a_cons (s_var (i := 0) rfl (.inl rfl)) (a_cons (s_var (i := 1) rfl (.inl rfl)) a_nil)) (len_dws (len_cons (len_cons len_nil)) rfl))) (b_cons (s_set (i := 8) sc_law_picture.nd rfl (.inr rfl) (s_bin op_addA says_add s_int (s_bin op_mod says_mod (s_var (i := 7) rfl (.inl rfl)) (s_var (i := 2) rfl (.inl rfl))))) (b_cons (s_set (i := 5) sc_law_picture.nd rfl (.inl rfl) (s_bin op_addA says_add s_int (s_bin op_mod says_mod (s_bin op_fdivW says_fdiv (s_var (i := 7) rfl (.inl rfl)) (s_var (i := 2) rfl (.inl rfl))) (s_var (i := 2) rfl (.inl rfl))))) (b_cons (s_if (s_testCmp (op_eqA hu) says_eq (s_bin op_mod says_mod (s_bin op_fdivW says_fdiv (s_bin op_fdivW says_fdiv (s_var (i := 7) rfl (.inl rfl)) (s_var (i := 2) rfl (.inl rfl))) (s_var (i := 2) rfl (.inl rfl))) s_int) s_int (nomark _)) (b_one (s_set (i := 8) sc_law_picture.nd rfl (.inr rfl) (s_bin op_addA says_add s_int (s_bin op_mod says_mod (s_bin op_fdivW says_fdiv (s_bin op_fdivW says_fdiv (s_bin op_fdivW says_fdiv (s_var (i := 7) rfl (.inl rfl)) (s_var (i := 2) rfl (.inl rfl))) (s_var (i := 2) rfl (.inl rfl))) s_int) s_int)))) (b_one (s_if (s_testCmp (op_eqA hu) says_eq (s_bin op_mod says_mod (s_bin op_fdivW says_fdiv (s_bin op_fdivW says_fdiv (s_var (i := 7) rfl (.inl rfl)) (s_var (i := 2) rfl (.inl rfl))) (s_var (i := 2) rfl (.inl rfl))) s_int) s_int (nomark _)) (b_one (s_set (i := 5) sc_law_picture.nd rfl (.inl rfl) (s_bin op_addA says_add s_int (s_bin op_mod says_mod (s_bin op_fdivW says_fdiv (s_bin op_fdivW says_fdiv (s_bin op_fdivW says_fdiv (s_var (i := 7) rfl (.inl rfl)) (s_var (i := 2) rfl (.inl rfl))) (s_var (i := 2) rfl (.inl rfl))) s_int) s_int)))) b_nil))) (b_cons (s_set (i := 6) sc_law_picture.nd rfl (.inr rfl) (s_ix (s_lst (a_cons s_int (a_cons s_int (a_cons s_int (a_cons s_int a_nil))))) (s_bin op_mod says_mod (s_call C_law_cell_at (hr.mono (by decide)) (by rfl) tk (a_cons (s_var (i := 0) rfl (.inl rfl)) (a_cons (s_bin op_addA says_add (s_var (i := 1) rfl (.inl rfl)) s_int) a_nil)) (len_dws (len_cons (len_cons len_nil)) rfl)) s_int))) (b_cons (s_set (i := 3) sc_law_picture.nd rfl (.inr rfl) (s_bin op_mod says_mod (s_bin op_fdivW says_fdiv (s_call C_law_cell_at (hr.mono (by decide)) (by rfl) tk (a_cons (s_var (i := 0) rfl (.inl rfl)) (a_cons (s_bin op_addA says_add (s_var (i := 1) rfl (.inl rfl)) s_int) a_nil)) (len_dws (len_cons (len_cons len_nil)) rfl)) s_int) s_int)) (b_cons (s_set (i := 4) sc_law_picture.nd rfl (.inr rfl) (s_call C_law_cell_at (hr.mono (by decide)) (by rfl) tk (a_cons (s_var (i := 0) rfl (.inl rfl)) (a_cons (s_bin op_addA says_add (s_var (i := 1) rfl (.inl rfl)) s_int) a_nil)) (len_dws (len_cons (len_cons len_nil)) rfl))) (b_one (s_ret (s_lc (own := [("_law_y", 9)]) rfl sc_law_picture.nd (i_range1 (by rfl) T.n_range (a_cons (s_var (i := 5) rfl (.inl rfl)) a_nil)) (blkOk_by (N := N_law_picture) (sc := defScope s_law_picture) (by decide +kernel)) (fun _ _ _ _ _ => (pg_name (i := 9) sc_law_picture.nd rfl (by first | exact .inl rfl | exact .inr rfl))) tgt_name (own_name (by decide)) (fun _ _ _ _ _ => ts_nil) (fun _ _ _ _ _ => (s_lc (own := [("_law_x", 10)]) rfl sc_law_picture.nd (i_range1 (by rfl) T.n_range (a_cons (s_var (i := 8) rfl (by first | exact .inr (.inl rfl) | exact .inr (.inr rfl) | exact .inl rfl)) a_nil)) (blkOk_by (by kernel_rfl)) (fun _ _ _ _ _ => (pg_name (i := 10) sc_law_picture.nd rfl (by first | exact .inl rfl | exact .inr rfl))) tgt_name (own_name (by decide)) (fun _ _ _ _ _ => ts_nil) (fun _ _ _ _ _ => (s_bin op_mod says_mod (s_bin op_addA says_add (s_var (i := 3) rfl (by first | exact .inr (.inl rfl) | exact .inr (.inr rfl) | exact .inl rfl)) (s_bin op_mod says_mod (s_call C_law_mixed (hr.mono (by decide)) (by rfl) takesN (a_cons (s_var (i := 4) rfl (by first | exact .inr (.inl rfl) | exact .inr (.inr rfl) | exact .inl rfl)) (a_cons (s_bin op_addA says_add (s_bin op_mulA says_mul s_int (s_var (i := 9) rfl (by first | exact .inr (.inl rfl) | exact .inr (.inr rfl) | exact .inl rfl))) (s_var (i := 10) rfl (by first | exact .inl rfl | exact .inr (.inl rfl)))) a_nil)) (len_dws (len_cons (len_cons len_nil)) rfl)) (s_var (i := 6) rfl (by first | exact .inr (.inl rfl) | exact .inr (.inr rfl) | exact .inl rfl)))) s_int))))))))))))))
abbrev s_law_copied : Stmt := topS 23
abbrev N_law_copied : List Str := ["_law_picture_here", "_law_row"]
abbrev P_law_copied : List Str := ["_law_picture_here"]
theorem sc_law_copied : FnScope N_law_copied P_law_copied (defScope s_law_copied) := ⟨rfl, rfl, rfl, by decide +kernel, rfl, by decide +kernel, by decide +kernel⟩
noncomputable def b_law_copied : MS :=
  (sRet (mComp (miA (mVar 0)) (gN 1) mYes (mBi fList (mConsT (mVar 1) mNilT)) [1]))
noncomputable def m_law_copied : List W → GH → R W := mDef 2 b_law_copied
theorem ok_law_copied {f : Addr} {fd : FuncData} {dvs : List V} (F : FunD K "_law_copied" "_law_copied" (defArgs s_law_copied) (defBody s_law_copied) (defScope s_law_copied) dvs [] f fd) (T : Tx K mg ca) : FnOk P w K mg base (L2N.CX P w) 1 f fd P_law_copied (spM K ca 1 m_law_copied) := by
  refine def_okD (N := N_law_copied) F sc_law_copied fun cdv A outer s H E hr => ?_
  have hu := hr.units
  have hu5 := hu_five hr
  have tk : L2N.Takes (cxOf (L2N.CX P w) P w K mg base N_law_copied "_law_copied" (defScope s_law_copied) f cdv A outer s H E) (fun c d _ H => E c d H) := L2N.takes_of rfl rfl rfl rfl
  exact (b_one (s_ret (s_lc (own := [("_law_row", 1)]) rfl sc_law_copied.nd (i_any (s_var (i := 0) rfl (.inl rfl))) (blkOk_by (N := N_law_copied) (sc := defScope s_law_copied) (by decide +kernel)) (fun _ _ _ _ _ => (pg_name (i := 1) sc_law_copied.nd rfl (by first | exact .inl rfl | exact .inr rfl))) tgt_name (own_name (by decide)) (fun _ _ _ _ _ => ts_nil) (fun _ _ _ _ _ => (s_bty call_list_of says_list (by rfl) T.n_list bt_list (c_cons (s_var (i := 1) rfl (by first | exact .inl rfl | exact .inr (.inl rfl))) c_nil))))))
abbrev s_law_marked : Stmt := topS 24
abbrev N_law_marked : List Str := ["_law_found", "_law_row"]
abbrev P_law_marked : List Str := ["_law_found"]
theorem sc_law_marked : FnScope N_law_marked P_law_marked (defScope s_law_marked) := ⟨rfl, rfl, rfl, by decide +kernel, rfl, by decide +kernel, by decide +kernel⟩
noncomputable def b_law_marked : MS :=
  (sSeq (sFor (miA (mVar 0)) (gN 1) (sPut (mVar 1) (mC (.int 0)) (mC (.int 99)))) (sRet (mC (.bl true))))
noncomputable def m_law_marked : List W → GH → R W := mDef 2 b_law_marked
theorem ok_law_marked {f : Addr} {fd : FuncData} {dvs : List V} (F : FunD K "_law_marked" "_law_marked" (defArgs s_law_marked) (defBody s_law_marked) (defScope s_law_marked) dvs [] f fd) (T : Tx K mg ca) : FnOk P w K mg base (L2N.CX P w) 1 f fd P_law_marked (spM K ca 1 m_law_marked) := by
  refine def_okD (N := N_law_marked) F sc_law_marked fun cdv A outer s H E hr => ?_
  have hu := hr.units
  have hu5 := hu_five hr
  have tk : L2N.Takes (cxOf (L2N.CX P w) P w K mg base N_law_marked "_law_marked" (defScope s_law_marked) f cdv A outer s H E) (fun c d _ H => E c d H) := L2N.takes_of rfl rfl rfl rfl
  exact (b_cons (s_for (passes_of rfl) rfl (i_any (s_var (i := 0) rfl (.inl rfl))) (g_name (i := 1) sc_law_marked.nd rfl (.inl rfl)) (b_one (s_put (s_var (i := 1) rfl (.inl rfl)) s_int s_int))) (b_one (s_ret s_bl)))
abbrev s_law_is_like : Stmt := topS 25
abbrev N_law_is_like : List Str := ["_law_found", "_law_due", "_law_good", "_law_other", "_law_row", "_law_cell"]
abbrev P_law_is_like : List Str := ["_law_found", "_law_due"]
theorem sc_law_is_like : FnScope N_law_is_like P_law_is_like (defScope s_law_is_like) := ⟨rfl, rfl, rfl, by decide +kernel, rfl, by decide +kernel, by decide +kernel⟩
noncomputable def b_law_is_like : MS :=
  (sSeq (sIf (mOr (mNot (mTru (mBi fIsi (mConsT (mVar 0) (mConsT (mC (.ty "list")) mNilT))))) (mB (mBin fNe (mBi fLen (mConsT (mVar 0) mNilT)) (mBi fLen (mConsT (mVar 1) mNilT))))) (sRet (mC (.bl false))) sNext) (sSeq (sFor (miB iterZ (mConsT (mVar 0) (mConsT (mVar 1) mNilT))) (gT (gC (gN 4) (gC (gN 3) gE))) (sSeq (sIf (mOr (mNot (mTru (mBi fIsi (mConsT (mVar 4) (mConsT (mC (.ty "list")) mNilT))))) (mB (mBin fNe (mVar 4) (mVar 3)))) (sRet (mC (.bl false))) sNext) (sIf (mB (mBin fNe (mComp (miA (mVar 4)) (gN 5) (mOr (mNot (mTru (mBi fIsi (mConsT (mVar 5) (mConsT (mC (.ty "int")) mNilT))))) (mTru (mBi fIsi (mConsT (mVar 5) (mConsT (mC (.ty "bool")) mNilT))))) (mVar 5) [5]) (mLst mNil))) (sRet (mC (.bl false))) sNext))) (sSeq (sFor (miA (mVar 0)) (gN 4) (sDrop (mMtF isLst fApp (mVar 4) (mCons (mC (.int 0)) mNil)))) (sSeq (sSet 2 (mBin fEq (mComp (miA (mVar 0)) (gN 4) mYes (mBi fLen (mConsT (mVar 4) mNilT)) [4]) (mComp (miA (mVar 1)) (gN 4) mYes (mBin fAdd (mBi fLen (mConsT (mVar 4) mNilT)) (mC (.int 1))) [4]))) (sSeq (sFor (miA (mVar 0)) (gN 4) (sDrop (mMt isLst fPop (mVar 4) mNilT))) (sRet (mVar 2)))))))
noncomputable def m_law_is_like : List W → GH → R W := mDef 6 b_law_is_like
theorem ok_law_is_like {f : Addr} {fd : FuncData} {dvs : List V} (F : FunD K "_law_is_like" "_law_is_like" (defArgs s_law_is_like) (defBody s_law_is_like) (defScope s_law_is_like) dvs [] f fd) (T : Tx K mg ca) : FnOk P w K mg base (L2N.CX P w) 1 f fd P_law_is_like (spM K ca 2 m_law_is_like) := by
  refine def_okD (N := N_law_is_like) F sc_law_is_like fun cdv A outer s H E hr => ?_
  have hu := hr.units
  have hu5 := hu_five hr
  have tk : L2N.Takes (cxOf (L2N.CX P w) P w K mg base N_law_is_like "_law_is_like" (defScope s_law_is_like) f cdv A outer s H E) (fun c d _ H => E c d H) := L2N.takes_of rfl rfl rfl rfl
  exact (b_cons (s_if (PW.pt (w_or (s_tnot (s_truth (s_bi call_isi says_isi (by rfl) T.n_isinstance bt_isinstance (c_cons (s_var (i := 0) rfl (.inl rfl)) (c_cons (s_ty (by rfl) T.n_list bt_list) c_nil))))) (w_or1 (s_testCmp (op_neA hu) says_ne (s_bi call_len says_len (by rfl) T.n_len bt_len (c_cons (s_var (i := 0) rfl (.inl rfl)) c_nil)) (s_bi call_len says_len (by rfl) T.n_len bt_len (c_cons (s_var (i := 1) rfl (.inl rfl)) c_nil)) (nomark _))))) (b_one (s_ret s_bl)) b_nil) (b_cons (s_for (passes_of rfl) rfl (i_zip (by rfl) T.n_zip (c_cons (s_var (i := 0) rfl (.inl rfl)) (c_cons (s_var (i := 1) rfl (.inl rfl)) c_nil))) (g_tup rfl (g_cons (g_name (i := 4) sc_law_is_like.nd rfl (.inl rfl)) (g_cons (g_name (i := 3) sc_law_is_like.nd rfl (.inl rfl)) g_nil)) (gl_cons (gl_cons gl_nil))) (b_cons (s_if (PW.pt (w_or (s_tnot (s_truth (s_bi call_isi says_isi (by rfl) T.n_isinstance bt_isinstance (c_cons (s_var (i := 4) rfl (.inl rfl)) (c_cons (s_ty (by rfl) T.n_list bt_list) c_nil))))) (w_or1 (s_testCmp (op_neA hu) says_ne (s_var (i := 4) rfl (.inl rfl)) (s_var (i := 3) rfl (.inl rfl)) (nomark _))))) (b_one (s_ret s_bl)) b_nil) (b_one (s_if (s_testCmp (op_neA hu) says_ne (s_lc (own := [("_law_cell", 5)]) rfl sc_law_is_like.nd (i_any (s_var (i := 4) rfl (.inl rfl))) (blkOk_by (N := N_law_is_like) (sc := defScope s_law_is_like) (by decide +kernel)) (fun _ _ _ _ _ => (pg_name (i := 5) sc_law_is_like.nd rfl (by first | exact .inl rfl | exact .inr rfl))) tgt_name (own_name (by decide)) (fun _ _ _ _ _ => (ts_one (PW.pt (w_or (s_tnot (s_truth (s_bi call_isi says_isi (by rfl) T.n_isinstance bt_isinstance (c_cons (s_var (i := 5) rfl (by first | exact .inl rfl | exact .inr (.inl rfl))) (c_cons (s_ty (by rfl) T.n_int bt_int) c_nil))))) (w_or1 (s_truth (s_bi call_isi says_isi (by rfl) T.n_isinstance bt_isinstance (c_cons (s_var (i := 5) rfl (by first | exact .inl rfl | exact .inr (.inl rfl))) (c_cons (s_ty (by rfl) T.n_bool bt_bool) c_nil))))))))) (fun _ _ _ _ _ => (s_var (i := 5) rfl (by first | exact .inl rfl | exact .inr (.inl rfl))))) (s_lst a_nil) (nomark _)) (b_one (s_ret s_bl)) b_nil)))) (b_cons (s_for (passes_of rfl) rfl (i_any (s_var (i := 0) rfl (.inl rfl))) (g_name (i := 4) sc_law_is_like.nd rfl (.inl rfl)) (b_one (s_expr (s_mtF PySem.F.plainAttrs_list PySem.F.slot_list_append PySem.F.type_list_append mt_append says_app ty_list (s_var (i := 4) rfl (.inl rfl)) (a_cons s_int a_nil))))) (b_cons (s_set (i := 2) sc_law_is_like.nd rfl (.inl rfl) (s_cmp (op_eqA hu) says_eq (s_lc (own := [("_law_row", 4)]) rfl sc_law_is_like.nd (i_any (s_var (i := 0) rfl (.inl rfl))) (blkOk_by (N := N_law_is_like) (sc := defScope s_law_is_like) (by decide +kernel)) (fun _ _ _ _ _ => (pg_name (i := 4) sc_law_is_like.nd rfl (by first | exact .inl rfl | exact .inr rfl))) tgt_name (own_name (by decide)) (fun _ _ _ _ _ => ts_nil) (fun _ _ _ _ _ => (s_bi call_len says_len (by rfl) T.n_len bt_len (c_cons (s_var (i := 4) rfl (by first | exact .inl rfl | exact .inr (.inl rfl))) c_nil)))) (s_lc (own := [("_law_row", 4)]) rfl sc_law_is_like.nd (i_any (s_var (i := 1) rfl (.inl rfl))) (blkOk_by (N := N_law_is_like) (sc := defScope s_law_is_like) (by decide +kernel)) (fun _ _ _ _ _ => (pg_name (i := 4) sc_law_is_like.nd rfl (by first | exact .inl rfl | exact .inr rfl))) tgt_name (own_name (by decide)) (fun _ _ _ _ _ => ts_nil) (fun _ _ _ _ _ => (s_bin op_addA says_add (s_bi call_len says_len (by rfl) T.n_len bt_len (c_cons (s_var (i := 4) rfl (by first | exact .inl rfl | exact .inr (.inl rfl))) c_nil)) s_int))) (nomark _))) (b_cons (s_for (passes_of rfl) rfl (i_any (s_var (i := 0) rfl (.inl rfl))) (g_name (i := 4) sc_law_is_like.nd rfl (.inl rfl)) (b_one (s_expr (s_mt0 PySem.F.plainAttrs_list PySem.F.slot_list_pop PySem.F.type_list_pop mt_pop says_pop ty_list (s_var (i := 4) rfl (.inl rfl)))))) (b_one (s_ret (s_var (i := 2) rfl (.inl rfl)))))))))
abbrev s_law_refused : Stmt := topS 26
abbrev N_law_refused : List Str := ["_law_deed", "_law_names", "e"]
abbrev P_law_refused : List Str := ["_law_deed"]
theorem sc_law_refused : FnScope N_law_refused P_law_refused (defScope s_law_refused) := ⟨rfl, rfl, rfl, by decide +kernel, rfl, by decide +kernel, by decide +kernel⟩
noncomputable def t_law_refused (r : R Sy.T) (τ : Sl) : RS :=
  (sTry xt 0 2 (sRet (mRes r)) (fun c a => (sSeq (sSet 1 (mLst (mCons (mBi (fIsE it c a) (mConsT (mVar 2) (mConsT (mC (.cls 1)) mNilT))) (mCons (mBi (fIsE it c a) (mConsT (mVar 2) (mConsT (mC (.cls 3)) mNilT))) (mCons (mBi (fIsE it c a) (mConsT (mVar 2) (mConsT (mC (.cls 2)) mNilT))) mNil))))) (sRet (mTup (mCons (mC (.str "refused")) (mCons (mVar 1) (mCons (mBi (fIsE it c a) (mConsT (mVar 2) (mConsT (mC (.ty "ValueError")) mNilT))) mNil))))))) τ [])
theorem ok_law_refused (T : Tx K mg ca) {g : Addr} (cdv : Value) (A : Around) (outer : List Env) (s : Shared) (H : Hp) (E : XK) (fl : Addr) (ρ : List Addr) (G : GH) (r : R Sy.T) (hr : Room 0 (A.deeper (envOfC "_law_refused" (defScope s_law_refused) s.heap.objs.size g cdv))) (r0 : Rep K ca ρ G H) (act : Act (cxOf (L2N.CX P w) P w K mg base N_law_refused "_law_refused" (defScope s_law_refused) g cdv A outer s H E) ca "_law_deed" (L2.start N_law_refused [V.ref fl]) H ρ r) :
    PSs (cxOf (L2N.CX P w) P w K mg base N_law_refused "_law_refused" (defScope s_law_refused) g cdv A outer s H E) (defBody s_law_refused) (tF K ca (fun c d _ H => E c d H) (L2.start N_law_refused [V.ref fl]) H ρ (t_law_refused r (List.replicate N_law_refused.length none))) := by
  have hu := hr.units
  have hu5 := hu_five hr
  have tk : L2N.Takes (cxOf (L2N.CX P w) P w K mg base N_law_refused "_law_refused" (defScope s_law_refused) g cdv A outer s H E) (fun c d _ H => E c d H) := L2N.takes_of rfl rfl rfl rfl
  show PSs _ _ (tF _ _ _ _ _ _ (sTry xt 0 2 (sRet (mRes r)) (fun c a => (sSeq (sSet 1 (mLst (mCons (mBi (fIsE it c a) (mConsT (mVar 2) (mConsT (mC (.cls 1)) mNilT))) (mCons (mBi (fIsE it c a) (mConsT (mVar 2) (mConsT (mC (.cls 3)) mNilT))) (mCons (mBi (fIsE it c a) (mConsT (mVar 2) (mConsT (mC (.cls 2)) mNilT))) mNil))))) (sRet (mTup (mCons (mC (.str "refused")) (mCons (mVar 1) (mCons (mBi (fIsE it c a) (mConsT (mVar 2) (mConsT (mC (.ty "ValueError")) mNilT))) mNil))))))) (List.replicate N_law_refused.length none) []))
  exact (f_one (s_try0 (mb := (sRet (mRes r))) T.E rfl rfl sc_law_refused.nd rfl rfl ⟨by rfl, by decide, .inl T.g_FolioError⟩ tk (fun W pn xe tk => f_ret act ⟨G, r0⟩ (relS_none (start_len N_law_refused [V.ref fl] (Nat.le_of_ble_eq_true rfl))) tk) (fun c a oe pn hx => (b_cons (s_set (i := 1) sc_law_refused.nd rfl (.inl rfl) (s_lst (a_cons (s_bi (call_isX' hx) (says_isE T.E) (by rfl) T.n_isinstance bt_isinstance (c_cons (s_var (i := 2) rfl (.inl rfl)) (c_cons (s_glob (by rfl) (konW_cls T.g_BadPicture)) c_nil))) (a_cons (s_bi (call_isX' hx) (says_isE T.E) (by rfl) T.n_isinstance bt_isinstance (c_cons (s_var (i := 2) rfl (.inl rfl)) (c_cons (s_glob (by rfl) (konW_cls T.g_OutOfPlace)) c_nil))) (a_cons (s_bi (call_isX' hx) (says_isE T.E) (by rfl) T.n_isinstance bt_isinstance (c_cons (s_var (i := 2) rfl (.inl rfl)) (c_cons (s_glob (by rfl) (konW_cls T.g_BadSize)) c_nil))) a_nil))))) (b_one (s_ret (s_tup (a_cons s_str (a_cons (s_var (i := 1) rfl (.inl rfl)) (a_cons (s_bi (call_isX' hx) (says_isE T.E) (by rfl) T.n_isinstance bt_isinstance (c_cons (s_var (i := 2) rfl (.inl rfl)) (c_cons (s_ty (by rfl) T.n_ValueError bt_ValueError) c_nil))) a_nil))))))))))
abbrev s_law_part : Stmt := topS 27
abbrev N_law_part : List Str := ["_law_script", "_law_wide", "_law_high", "_law_at", "_law_bent", "_law_cell", "_law_far", "_law_left", "_law_more", "_law_odd", "_law_part_here", "_law_top"]
abbrev P_law_part : List Str := ["_law_script", "_law_wide", "_law_high"]
theorem sc_law_part : FnScope N_law_part P_law_part (defScope s_law_part) := ⟨rfl, rfl, rfl, by decide +kernel, rfl, by decide +kernel, by decide +kernel⟩
noncomputable def b_law_part : MS :=
  (sSeq (sSet 5 (mCall m_law_cell_at [] (mCons (mVar 0) (mCons (mC (.int 3)) mNil)))) (sSeq (sSet 7 (mBin fMod (mVar 5) (mVar 1))) (sSeq (sSet 11 (mBin fMod (mBin fFdiv (mVar 5) (mVar 1)) (mVar 2))) (sSeq (sSet 8 (mCall m_law_cell_at [] (mCons (mVar 0) (mCons (mC (.int 4)) mNil)))) (sSeq (sSet 10 (mLst (mCons (mVar 7) (mCons (mVar 11) (mCons (mBin fAdd (mC (.int 1)) (mBin fMod (mVar 8) (mBin fSub (mVar 1) (mVar 7)))) (mCons (mBin fAdd (mC (.int 1)) (mBin fMod (mBin fFdiv (mVar 8) (mC (.int 24))) (mBin fSub (mVar 2) (mVar 11)))) mNil)))))) (sSeq (sSet 4 (mCall m_law_cell_at [] (mCons (mVar 0) (mCons (mC (.int 5)) mNil)))) (sSeq (sIf (mB (mBin fEq (mBin fMod (mVar 4) (mC (.int 3))) (mC (.int 1)))) (sSeq (sSet 3 (mBin fMod (mBin fFdiv (mVar 4) (mC (.int 3))) (mC (.int 4)))) (sSeq (sSet 6 (mBin fMod (mBin fFdiv (mVar 4) (mC (.int 96))) (mBin fPow (mC (.int 10)) (mC (.int 20))))) (sSeq (sSet 9 (mLst (mCons (mUn fNeg (mC (.int 1))) (mCons (mBin fIx (mLst (mCons (mVar 1) (mCons (mVar 2) (mCons (mBin fAdd (mBin fSub (mVar 1) (mVar 7)) (mC (.int 1))) (mCons (mBin fAdd (mBin fSub (mVar 2) (mVar 11)) (mC (.int 1))) mNil))))) (mVar 3)) (mCons (mBin fSub (mC (.int 0)) (mBin fMulB (mC (.int 2)) (mBin fLt (mVar 3) (mC (.int 2))))) (mCons (mBin fAdd (mC (.int 25)) (mVar 6)) (mCons (mC (.bl true)) (mCons (mC .non) (mCons (mC (.str "1")) (mCons (mLst (mCons (mC (.int 1)) mNil)) mNil)))))))))) (sPut (mVar 10) (mVar 3) (mBin fIx (mVar 9) (mBin fMod (mBin fFdiv (mVar 4) (mC (.int 12))) (mC (.int 8)))))))) sNext) (sRet (mVar 10)))))))))
noncomputable def m_law_part : List W → GH → R W := mDef 12 b_law_part
theorem ok_law_part {f : Addr} {fd : FuncData} {dvs : List V} (F : FunD K "_law_part" "_law_part" (defArgs s_law_part) (defBody s_law_part) (defScope s_law_part) dvs [] f fd) (T : Tx K mg ca) (C_law_cell_at : Callable P w K mg base ca 1 "_law_cell_at" P_law_cell_at [] m_law_cell_at) : FnOk P w K mg base (L2N.CX P w) 2 f fd P_law_part (spM K ca 3 m_law_part) := by
  refine def_okD (N := N_law_part) F sc_law_part fun cdv A outer s H E hr => ?_
  have hu := hr.units
  have hu5 := hu_five hr
  have tk : L2N.Takes (cxOf (L2N.CX P w) P w K mg base N_law_part "_law_part" (defScope s_law_part) f cdv A outer s H E) (fun c d _ H => E c d H) := L2N.takes_of rfl rfl rfl rfl
  exact (b_cons (s_set (i := 5) sc_law_part.nd rfl (.inl rfl) (s_call C_law_cell_at (hr.mono (by decide)) (by rfl) tk (a_cons (s_var (i := 0) rfl (.inl rfl)) (a_cons s_int a_nil)) (len_dws (len_cons (len_cons len_nil)) rfl))) (b_cons (s_set (i := 7) sc_law_part.nd rfl (.inl rfl) (s_bin op_mod says_mod (s_var (i := 5) rfl (.inl rfl)) (s_var (i := 1) rfl (.inl rfl)))) (b_cons (s_set (i := 11) sc_law_part.nd rfl (.inl rfl) (s_bin op_mod says_mod (s_bin op_fdivW says_fdiv (s_var (i := 5) rfl (.inl rfl)) (s_var (i := 1) rfl (.inl rfl))) (s_var (i := 2) rfl (.inl rfl)))) (b_cons (s_set (i := 8) sc_law_part.nd rfl (.inl rfl) (s_call C_law_cell_at (hr.mono (by decide)) (by rfl) tk (a_cons (s_var (i := 0) rfl (.inl rfl)) (a_cons s_int a_nil)) (len_dws (len_cons (len_cons len_nil)) rfl))) (b_cons (s_set (i := 10) sc_law_part.nd rfl (.inl rfl) (s_lst (a_cons (s_var (i := 7) rfl (.inl rfl)) (a_cons (s_var (i := 11) rfl (.inl rfl)) (a_cons (s_bin op_addA says_add s_int (s_bin op_mod says_mod (s_var (i := 8) rfl (.inl rfl)) (s_bin op_sub says_sub (s_var (i := 1) rfl (.inl rfl)) (s_var (i := 7) rfl (.inl rfl))))) (a_cons (s_bin op_addA says_add s_int (s_bin op_mod says_mod (s_bin op_fdivW says_fdiv (s_var (i := 8) rfl (.inl rfl)) s_int) (s_bin op_sub says_sub (s_var (i := 2) rfl (.inl rfl)) (s_var (i := 11) rfl (.inl rfl))))) a_nil)))))) (b_cons (s_set (i := 4) sc_law_part.nd rfl (.inl rfl) (s_call C_law_cell_at (hr.mono (by decide)) (by rfl) tk (a_cons (s_var (i := 0) rfl (.inl rfl)) (a_cons s_int a_nil)) (len_dws (len_cons (len_cons len_nil)) rfl))) (b_cons (s_if (s_testCmp (op_eqA hu) says_eq (s_bin op_mod says_mod (s_var (i := 4) rfl (.inl rfl)) s_int) s_int (nomark _)) (b_cons (s_set (i := 3) sc_law_part.nd rfl (.inl rfl) (s_bin op_mod says_mod (s_bin op_fdivW says_fdiv (s_var (i := 4) rfl (.inl rfl)) s_int) s_int)) (b_cons (s_set (i := 6) sc_law_part.nd rfl (.inl rfl) (s_bin op_mod says_mod (s_bin op_fdivW says_fdiv (s_var (i := 4) rfl (.inl rfl)) s_int) (s_bin op_pow says_pow s_int s_int))) (b_cons (s_set (i := 9) sc_law_part.nd rfl (.inl rfl) (s_lst (a_cons (s_neg s_int) (a_cons (s_ix (s_lst (a_cons (s_var (i := 1) rfl (.inl rfl)) (a_cons (s_var (i := 2) rfl (.inl rfl)) (a_cons (s_bin op_addA says_add (s_bin op_sub says_sub (s_var (i := 1) rfl (.inl rfl)) (s_var (i := 7) rfl (.inl rfl))) s_int) (a_cons (s_bin op_addA says_add (s_bin op_sub says_sub (s_var (i := 2) rfl (.inl rfl)) (s_var (i := 11) rfl (.inl rfl))) s_int) a_nil))))) (s_var (i := 3) rfl (.inl rfl))) (a_cons (s_bin op_sub says_sub s_int (s_bin op_mul_ib says_mulB s_int (s_cmp op_lt says_C (s_var (i := 3) rfl (.inl rfl)) s_int (nomark _)))) (a_cons (s_bin op_addA says_add s_int (s_var (i := 6) rfl (.inl rfl))) (a_cons s_bl (a_cons s_non (a_cons s_str (a_cons (s_lst (a_cons s_int a_nil)) a_nil)))))))))) (b_one (s_put (s_var (i := 10) rfl (.inl rfl)) (s_var (i := 3) rfl (.inl rfl)) (s_ix (s_var (i := 9) rfl (.inl rfl)) (s_bin op_mod says_mod (s_bin op_fdivW says_fdiv (s_var (i := 4) rfl (.inl rfl)) s_int) s_int))))))) b_nil) (b_one (s_ret (s_var (i := 10) rfl (.inl rfl)))))))))))
abbrev s_law_is_number : Stmt := topS 28
abbrev N_law_is_number : List Str := ["_law_thing"]
abbrev P_law_is_number : List Str := ["_law_thing"]
theorem sc_law_is_number : FnScope N_law_is_number P_law_is_number (defScope s_law_is_number) := ⟨rfl, rfl, rfl, by decide +kernel, rfl, by decide +kernel, by decide +kernel⟩
noncomputable def b_law_is_number : MS :=
  (sRet (mAndV (mBi fIsi (mConsT (mVar 0) (mConsT (mC (.ty "int")) mNilT))) (mNotV (mBi fIsi (mConsT (mVar 0) (mConsT (mC (.ty "bool")) mNilT))))))
noncomputable def m_law_is_number : List W → GH → R W := mDef 1 b_law_is_number
theorem ok_law_is_number {f : Addr} {fd : FuncData} {dvs : List V} (F : FunD K "_law_is_number" "_law_is_number" (defArgs s_law_is_number) (defBody s_law_is_number) (defScope s_law_is_number) dvs [] f fd) (T : Tx K mg ca) : FnOk P w K mg base (L2N.CX P w) 1 f fd P_law_is_number (spM K ca 1 m_law_is_number) := by
  refine def_okD (N := N_law_is_number) F sc_law_is_number fun cdv A outer s H E hr => ?_
  have hu := hr.units
  have hu5 := hu_five hr
  have tk : L2N.Takes (cxOf (L2N.CX P w) P w K mg base N_law_is_number "_law_is_number" (defScope s_law_is_number) f cdv A outer s H E) (fun c d _ H => E c d H) := L2N.takes_of rfl rfl rfl rfl
  exact (b_one (s_ret (v_and (s_bi call_isi says_isi (by rfl) T.n_isinstance bt_isinstance (c_cons (s_var (i := 0) rfl (.inl rfl)) (c_cons (s_ty (by rfl) T.n_int bt_int) c_nil))) (v_one (v_not (s_bi call_isi says_isi (by rfl) T.n_isinstance bt_isinstance (c_cons (s_var (i := 0) rfl (.inl rfl)) (c_cons (s_ty (by rfl) T.n_bool bt_bool) c_nil))))))))
abbrev s_law_cut : Stmt := topS 29
abbrev N_law_cut : List Str := ["_law_picture_here", "_law_part_here", "_law_high", "_law_left", "_law_top", "_law_wide", "_law_y", "_law_one", "_law_x"]
abbrev P_law_cut : List Str := ["_law_picture_here", "_law_part_here"]
theorem sc_law_cut : FnScope N_law_cut P_law_cut (defScope s_law_cut) := ⟨rfl, rfl, rfl, by decide +kernel, rfl, by decide +kernel, by decide +kernel⟩
noncomputable def b_law_cut : MS :=
  (sSeq (sIf (mB (mBin fNe (mComp (miA (mVar 1)) (gN 7) (mNot (mTru (mCall m_law_is_number [] (mCons (mVar 7) mNil)))) (mVar 7) [7]) (mLst mNil))) (sRet (mC .non)) sNext) (sSeq (sAsgL (gC (gN 3) (gC (gN 4) (gC (gN 5) (gC (gN 2) gE)))) (mVar 1)) (sSeq (sIf (mOr (mB (mBin fLt (mVar 3) (mC (.int 0)))) (mOr (mB (mBin fLt (mVar 4) (mC (.int 0)))) (mOr (mB (mBin fLt (mVar 5) (mC (.int 1)))) (mOr (mB (mBin fLt (mVar 2) (mC (.int 1)))) (mOr (mB (mBin fGt (mBin fAdd (mVar 3) (mVar 5)) (mBi fLen (mConsT (mBin fIx (mVar 0) (mC (.int 0))) mNilT)))) (mB (mBin fGt (mBin fAdd (mVar 4) (mVar 2)) (mBi fLen (mConsT (mVar 0) mNilT))))))))) (sRet (mC .non)) sNext) (sRet (mComp (miR (mCons (mVar 2) mNil)) (gN 6) mYes (mComp (miR (mCons (mVar 5) mNil)) (gN 8) mYes (mBin fIx (mBin fIx (mVar 0) (mBin fAdd (mVar 4) (mVar 6))) (mBin fAdd (mVar 3) (mVar 8))) [8]) [6])))))
noncomputable def m_law_cut : List W → GH → R W := mDef 9 b_law_cut
theorem ok_law_cut {f : Addr} {fd : FuncData} {dvs : List V} (F : FunD K "_law_cut" "_law_cut" (defArgs s_law_cut) (defBody s_law_cut) (defScope s_law_cut) dvs [] f fd) (T : Tx K mg ca) (C_law_is_number : Callable P w K mg base ca 1 "_law_is_number" P_law_is_number [] m_law_is_number) : FnOk P w K mg base (L2N.CX P w) 2 f fd P_law_cut (spM K ca 2 m_law_cut) := by
  refine def_okD (N := N_law_cut) F sc_law_cut fun cdv A outer s H E hr => ?_
  have hu := hr.units
  have hu5 := hu_five hr
  have tk : L2N.Takes (cxOf (L2N.CX P w) P w K mg base N_law_cut "_law_cut" (defScope s_law_cut) f cdv A outer s H E) (fun c d _ H => E c d H) := L2N.takes_of rfl rfl rfl rfl
  exact (b_cons (s_if (s_testCmp (op_neA hu) says_ne (s_lc (own := [("_law_one", 7)]) rfl sc_law_cut.nd (i_any (s_var (i := 1) rfl (.inl rfl))) (blkOk_by (N := N_law_cut) (sc := defScope s_law_cut) (by decide +kernel)) (fun _ _ _ _ _ => (pg_name (i := 7) sc_law_cut.nd rfl (by first | exact .inl rfl | exact .inr rfl))) tgt_name (own_name (by decide)) (fun _ _ _ _ _ => (ts_one (s_tnot (s_truth (s_call C_law_is_number (hr.mono (by decide)) (by rfl) takesN (a_cons (s_var (i := 7) rfl (by first | exact .inl rfl | exact .inr (.inl rfl))) a_nil) (len_dws (len_cons len_nil) rfl)))))) (fun _ _ _ _ _ => (s_var (i := 7) rfl (by first | exact .inl rfl | exact .inr (.inl rfl))))) (s_lst a_nil) (nomark _)) (b_one (s_ret s_non)) b_nil) (b_cons (s_asgL rfl (s_var (i := 1) rfl (.inl rfl)) (g_cons (g_name (i := 3) sc_law_cut.nd rfl (.inr rfl)) (g_cons (g_name (i := 4) sc_law_cut.nd rfl (.inr rfl)) (g_cons (g_name (i := 5) sc_law_cut.nd rfl (.inr rfl)) (g_cons (g_name (i := 2) sc_law_cut.nd rfl (.inl rfl)) g_nil)))) (gl_cons (gl_cons (gl_cons (gl_cons gl_nil))))) (b_cons (s_if (PW.pt (w_or (s_testCmp op_lt says_C (s_var (i := 3) rfl (.inr (.inl rfl))) s_int (nomark _)) (w_or (s_testCmp op_lt says_C (s_var (i := 4) rfl (.inr (.inl rfl))) s_int (nomark _)) (w_or (s_testCmp op_lt says_C (s_var (i := 5) rfl (.inr (.inl rfl))) s_int (nomark _)) (w_or (s_testCmp op_lt says_C (s_var (i := 2) rfl (.inl rfl)) s_int (nomark _)) (w_or (s_testCmp op_gt says_C (s_bin op_addA says_add (s_var (i := 3) rfl (.inr (.inl rfl))) (s_var (i := 5) rfl (.inr (.inl rfl)))) (s_bi call_len says_len (by rfl) T.n_len bt_len (c_cons (s_ix (s_var (i := 0) rfl (.inr (.inl rfl))) s_int) c_nil)) (nomark _)) (w_or1 (s_testCmp op_gt says_C (s_bin op_addA says_add (s_var (i := 4) rfl (.inr (.inl rfl))) (s_var (i := 2) rfl (.inl rfl))) (s_bi call_len says_len (by rfl) T.n_len bt_len (c_cons (s_var (i := 0) rfl (.inr (.inl rfl))) c_nil)) (nomark _))))))))) (b_one (s_ret s_non)) b_nil) (b_one (s_ret (s_lc (own := [("_law_y", 6)]) rfl sc_law_cut.nd (i_range1 (by rfl) T.n_range (a_cons (s_var (i := 2) rfl (.inl rfl)) a_nil)) (blkOk_by (N := N_law_cut) (sc := defScope s_law_cut) (by decide +kernel)) (fun _ _ _ _ _ => (pg_name (i := 6) sc_law_cut.nd rfl (by first | exact .inl rfl | exact .inr rfl))) tgt_name (own_name (by decide)) (fun _ _ _ _ _ => ts_nil) (fun _ _ _ _ _ => (s_lc (own := [("_law_x", 8)]) rfl sc_law_cut.nd (i_range1 (by rfl) T.n_range (a_cons (s_var (i := 5) rfl (by first | exact .inr (.inl rfl) | exact .inr (.inr rfl) | exact .inl rfl)) a_nil)) (blkOk_by (by kernel_rfl)) (fun _ _ _ _ _ => (pg_name (i := 8) sc_law_cut.nd rfl (by first | exact .inl rfl | exact .inr rfl))) tgt_name (own_name (by decide)) (fun _ _ _ _ _ => ts_nil) (fun _ _ _ _ _ => (s_ix (s_ix (s_var (i := 0) rfl (by first | exact .inr (.inl rfl) | exact .inr (.inr rfl) | exact .inl rfl)) (s_bin op_addA says_add (s_var (i := 4) rfl (by first | exact .inr (.inl rfl) | exact .inr (.inr rfl) | exact .inl rfl)) (s_var (i := 6) rfl (by first | exact .inr (.inl rfl) | exact .inr (.inr rfl) | exact .inl rfl)))) (s_bin op_addA says_add (s_var (i := 3) rfl (by first | exact .inr (.inl rfl) | exact .inr (.inr rfl) | exact .inl rfl)) (s_var (i := 8) rfl (by first | exact .inl rfl | exact .inr (.inl rfl))))))))))))))
abbrev s_law_step : Stmt := topS 30
abbrev N_law_step : List Str := ["_law_cell"]
abbrev P_law_step : List Str := ["_law_cell"]
theorem sc_law_step : FnScope N_law_step P_law_step (defScope s_law_step) := ⟨rfl, rfl, rfl, by decide +kernel, rfl, by decide +kernel, by decide +kernel⟩
noncomputable def b_law_step : MS :=
  (sSeq (sIf (mB (mBin fEq (mBin fMod (mVar 0) (mC (.int 8))) (mC (.int 5)))) (sRet (mBin fIx (mLst (mCons (mC (.int 0)) (mCons (mUn fNeg (mC (.int 1))) (mCons (mC (.bl true)) (mCons (mC .non) (mCons (mC (.str "2")) (mCons (mLst (mCons (mC (.int 1)) mNil)) (mCons (mBin fSub (mUn fNeg (mC (.int 1))) (mBin fMod (mBin fFdiv (mVar 0) (mC (.int 56))) (mBin fPow (mC (.int 10)) (mC (.int 20))))) mNil)))))))) (mBin fMod (mBin fFdiv (mVar 0) (mC (.int 8))) (mC (.int 7))))) sNext) (sRet (mBin fIx (mLst (mCons (mBin fAdd (mC (.int 1)) (mBin fMod (mBin fFdiv (mVar 0) (mC (.int 8))) (mC (.int 9)))) (mCons (mBin fAdd (mC (.int 1)) (mBin fMod (mBin fFdiv (mVar 0) (mC (.int 8))) (mC (.int 3)))) (mCons (mBin fAdd (mC (.int 1)) (mBin fMod (mBin fFdiv (mVar 0) (mC (.int 8))) (mC (.int 3)))) (mCons (mBin fAdd (mC (.int 24)) (mBin fMod (mBin fFdiv (mVar 0) (mC (.int 8))) (mBin fPow (mC (.int 10)) (mC (.int 20))))) mNil))))) (mBin fMod (mVar 0) (mC (.int 4))))))
noncomputable def m_law_step : List W → GH → R W := mDef 1 b_law_step
theorem ok_law_step {f : Addr} {fd : FuncData} {dvs : List V} (F : FunD K "_law_step" "_law_step" (defArgs s_law_step) (defBody s_law_step) (defScope s_law_step) dvs [] f fd) (T : Tx K mg ca) : FnOk P w K mg base (L2N.CX P w) 1 f fd P_law_step (spM K ca 1 m_law_step) := by
  refine def_okD (N := N_law_step) F sc_law_step fun cdv A outer s H E hr => ?_
  have hu := hr.units
  have hu5 := hu_five hr
  have tk : L2N.Takes (cxOf (L2N.CX P w) P w K mg base N_law_step "_law_step" (defScope s_law_step) f cdv A outer s H E) (fun c d _ H => E c d H) := L2N.takes_of rfl rfl rfl rfl
  exact (b_cons (s_if (s_testCmp (op_eqA hu) says_eq (s_bin op_mod says_mod (s_var (i := 0) rfl (.inl rfl)) s_int) s_int (nomark _)) (b_one (s_ret (s_ix (s_lst (a_cons s_int (a_cons (s_neg s_int) (a_cons s_bl (a_cons s_non (a_cons s_str (a_cons (s_lst (a_cons s_int a_nil)) (a_cons (s_bin op_sub says_sub (s_neg s_int) (s_bin op_mod says_mod (s_bin op_fdivW says_fdiv (s_var (i := 0) rfl (.inl rfl)) s_int) (s_bin op_pow says_pow s_int s_int))) a_nil)))))))) (s_bin op_mod says_mod (s_bin op_fdivW says_fdiv (s_var (i := 0) rfl (.inl rfl)) s_int) s_int)))) b_nil) (b_one (s_ret (s_ix (s_lst (a_cons (s_bin op_addA says_add s_int (s_bin op_mod says_mod (s_bin op_fdivW says_fdiv (s_var (i := 0) rfl (.inl rfl)) s_int) s_int)) (a_cons (s_bin op_addA says_add s_int (s_bin op_mod says_mod (s_bin op_fdivW says_fdiv (s_var (i := 0) rfl (.inl rfl)) s_int) s_int)) (a_cons (s_bin op_addA says_add s_int (s_bin op_mod says_mod (s_bin op_fdivW says_fdiv (s_var (i := 0) rfl (.inl rfl)) s_int) s_int)) (a_cons (s_bin op_addA says_add s_int (s_bin op_mod says_mod (s_bin op_fdivW says_fdiv (s_var (i := 0) rfl (.inl rfl)) s_int) (s_bin op_pow says_pow s_int s_int))) a_nil))))) (s_bin op_mod says_mod (s_var (i := 0) rfl (.inl rfl)) s_int)))))
abbrev s_law_thin : Stmt := topS 31
abbrev N_law_thin : List Str := ["_law_picture_here", "_law_across", "_law_down", "_law_found", "_law_y", "_law_x"]
abbrev P_law_thin : List Str := ["_law_picture_here", "_law_across", "_law_down"]
theorem sc_law_thin : FnScope N_law_thin P_law_thin (defScope s_law_thin) := ⟨rfl, rfl, rfl, by decide +kernel, rfl, by decide +kernel, by decide +kernel⟩
noncomputable def b_law_thin : MS :=
  (sSeq (sSet 3 (mLst mNil)) (sSeq (sFor (miR (mCons (mBi fLen (mConsT (mVar 0) mNilT)) mNil)) (gN 4) (sIf (mB (mBin fEq (mBin fMod (mVar 4) (mVar 2)) (mC (.int 0)))) (sDrop (mMtF isLst fApp (mVar 3) (mCons (mComp (miR (mCons (mBi fLen (mConsT (mBin fIx (mVar 0) (mC (.int 0))) mNilT)) mNil)) (gN 5) (mB (mBin fEq (mBin fMod (mVar 5) (mVar 1)) (mC (.int 0)))) (mBin fIx (mBin fIx (mVar 0) (mVar 4)) (mVar 5)) [5]) mNil))) sNext)) (sRet (mVar 3))))
noncomputable def m_law_thin : List W → GH → R W := mDef 6 b_law_thin
theorem ok_law_thin {f : Addr} {fd : FuncData} {dvs : List V} (F : FunD K "_law_thin" "_law_thin" (defArgs s_law_thin) (defBody s_law_thin) (defScope s_law_thin) dvs [] f fd) (T : Tx K mg ca) : FnOk P w K mg base (L2N.CX P w) 1 f fd P_law_thin (spM K ca 3 m_law_thin) := by
  refine def_okD (N := N_law_thin) F sc_law_thin fun cdv A outer s H E hr => ?_
  have hu := hr.units
  have hu5 := hu_five hr
  have tk : L2N.Takes (cxOf (L2N.CX P w) P w K mg base N_law_thin "_law_thin" (defScope s_law_thin) f cdv A outer s H E) (fun c d _ H => E c d H) := L2N.takes_of rfl rfl rfl rfl
  exact (b_cons (s_set (i := 3) sc_law_thin.nd rfl (.inl rfl) (s_lst a_nil)) (b_cons (s_for (passes_of rfl) rfl (i_range1 (by rfl) T.n_range (a_cons (s_bi call_len says_len (by rfl) T.n_len bt_len (c_cons (s_var (i := 0) rfl (.inr (.inl rfl))) c_nil)) a_nil)) (g_name (i := 4) sc_law_thin.nd rfl (.inr rfl)) (b_one (s_if (s_testCmp (op_eqA hu) says_eq (s_bin op_mod says_mod (s_var (i := 4) rfl (.inr (.inl rfl))) (s_var (i := 2) rfl (.inl rfl))) s_int (nomark _)) (b_one (s_expr (s_mtF PySem.F.plainAttrs_list PySem.F.slot_list_append PySem.F.type_list_append mt_append says_app ty_list (s_var (i := 3) rfl (.inl rfl)) (a_cons (s_lc (own := [("_law_x", 5)]) rfl sc_law_thin.nd (i_range1 (by rfl) T.n_range (a_cons (s_bi call_len says_len (by rfl) T.n_len bt_len (c_cons (s_ix (s_var (i := 0) rfl (.inr (.inl rfl))) s_int) c_nil)) a_nil)) (blkOk_by (N := N_law_thin) (sc := defScope s_law_thin) (by decide +kernel)) (fun _ _ _ _ _ => (pg_name (i := 5) sc_law_thin.nd rfl (by first | exact .inl rfl | exact .inr rfl))) tgt_name (own_name (by decide)) (fun _ _ _ _ _ => (ts_one (s_testCmp (op_eqA hu) says_eq (s_bin op_mod says_mod (s_var (i := 5) rfl (by first | exact .inl rfl | exact .inr (.inl rfl))) (s_var (i := 1) rfl (by first | exact .inr (.inl rfl) | exact .inr (.inr rfl) | exact .inl rfl))) s_int (nomark _)))) (fun _ _ _ _ _ => (s_ix (s_ix (s_var (i := 0) rfl (by first | exact .inr (.inl rfl) | exact .inr (.inr rfl) | exact .inl rfl)) (s_var (i := 4) rfl (by first | exact .inr (.inl rfl) | exact .inr (.inr rfl) | exact .inl rfl))) (s_var (i := 5) rfl (by first | exact .inl rfl | exact .inr (.inl rfl)))))) a_nil)))) b_nil))) (b_one (s_ret (s_var (i := 3) rfl (.inl rfl))))))
abbrev s_law_steps_right : Stmt := topS 32
abbrev N_law_steps_right : List Str := ["_law_picture_here", "_law_handed", "_law_across", "_law_down", "_law_due", "_law_good", "_law_thin_here", "_law_wide", "_law_y", "_law_x"]
abbrev P_law_steps_right : List Str := ["_law_picture_here", "_law_handed", "_law_across", "_law_down"]
theorem sc_law_steps_right : FnScope N_law_steps_right P_law_steps_right (defScope s_law_steps_right) := ⟨rfl, rfl, rfl, by decide +kernel, rfl, by decide +kernel, by decide +kernel⟩
noncomputable def b_law_steps_right : MS :=
  (sSeq (sSet 5 (mAndV (mCall m_law_is_number [] (mCons (mVar 2) mNil)) (mAndV (mCall m_law_is_number [] (mCons (mVar 3) mNil)) (mAndV (mBin fGt (mVar 2) (mC (.int 0))) (mBin fGt (mVar 3) (mC (.int 0))))))) (sSeq (sSet 6 (mThunk 0 "_law_steps_right.<locals>.<lambda>" 3 t_law_refused (mCall m_thinned [] (mCons (mVar 1) (mCons (mVar 2) (mCons (mVar 3) mNil)))))) (sSeq (sSet 7 (mThunk 0 "_law_steps_right.<locals>.<lambda>" 3 t_law_refused (mCall m_widened [] (mCons (mVar 1) (mCons (mVar 2) (mCons (mVar 3) mNil)))))) (sSeq (sIf (mNot (mTru (mVar 5))) (sRet (mBin fEq (mLst (mCons (mVar 6) (mCons (mVar 7) mNil))) (mBin fMul (mLst (mCons (mTup (mCons (mC (.str "refused")) (mCons (mLst (mCons (mC (.bl false)) (mCons (mC (.bl false)) (mCons (mC (.bl true)) mNil)))) (mCons (mC (.bl true)) mNil)))) mNil)) (mC (.int 2))))) sNext) (sSeq (sIf (mNot (mTru (mCall m_law_is_like [] (mCons (mVar 6) (mCons (mCall m_law_thin [] (mCons (mVar 0) (mCons (mVar 2) (mCons (mVar 3) mNil)))) mNil))))) (sRet (mC (.bl false))) sNext) (sSeq (sDrop (mCall m_law_marked [] (mCons (mVar 6) mNil))) (sSeq (sIf (mOr (mB (mBin fGt (mBin fMul (mBi fLen (mConsT (mBin fIx (mVar 0) (mC (.int 0))) mNilT)) (mVar 2)) (mC (.int 24)))) (mB (mBin fGt (mBin fMul (mBi fLen (mConsT (mVar 0) mNilT)) (mVar 3)) (mC (.int 24))))) (sRet (mBin fEq (mVar 7) (mTup (mCons (mC (.str "refused")) (mCons (mLst (mCons (mC (.bl false)) (mCons (mC (.bl false)) (mCons (mC (.bl true)) mNil)))) (mCons (mC (.bl true)) mNil)))))) sNext) (sSeq (sSet 4 (mLst mNil)) (sSeq (sFor (miR (mCons (mBin fMul (mBi fLen (mConsT (mVar 0) mNilT)) (mVar 3)) mNil)) (gN 8) (sDrop (mMtF isLst fApp (mVar 4) (mCons (mComp (miR (mCons (mBin fMul (mBi fLen (mConsT (mBin fIx (mVar 0) (mC (.int 0))) mNilT)) (mVar 2)) mNil)) (gN 9) mYes (mBin fIx (mBin fIx (mVar 0) (mBin fFdiv (mVar 8) (mVar 3))) (mBin fFdiv (mVar 9) (mVar 2))) [9]) mNil)))) (sSeq (sIf (mOr (mNot (mTru (mCall m_law_is_like [] (mCons (mVar 7) (mCons (mVar 4) mNil))))) (mNot (mTru (mCall m_law_is_like [] (mCons (mCall m_thinned [] (mCons (mVar 7) (mCons (mVar 2) (mCons (mVar 3) mNil)))) (mCons (mVar 0) mNil)))))) (sRet (mC (.bl false))) sNext) (sRet (mAndV (mCall m_law_marked [] (mCons (mVar 7) mNil)) (mBin fEq (mVar 1) (mVar 0))))))))))))))
noncomputable def m_law_steps_right : List W → GH → R W := mDef 10 b_law_steps_right
theorem ok_law_steps_right {f : Addr} {fd : FuncData} {dvs : List V} (F : FunD K "_law_steps_right" "_law_steps_right" (defArgs s_law_steps_right) (defBody s_law_steps_right) (defScope s_law_steps_right) dvs [] f fd) (T : Tx K mg ca) {cc : Addr} (hcode : ∀ (oc : Value) (od : Option Addr) (fd' : FuncData) (osl : Array (Option Value)), K.lookup f = some ⟨oc, od, .func fd', osl⟩ → fd'.code = .ref cc) (TB : LamX.TabB base mg cc (ca (1000 + 0))) (C_law_is_like : Callable P w K mg base ca 1 "_law_is_like" P_law_is_like [] m_law_is_like) (C_law_is_number : Callable P w K mg base ca 1 "_law_is_number" P_law_is_number [] m_law_is_number) (C_law_marked : Callable P w K mg base ca 1 "_law_marked" P_law_marked [] m_law_marked) (C_law_refused : CallT P w K mg base ca 0 "_law_refused" "_law_deed" 3 t_law_refused) (C_law_thin : Callable P w K mg base ca 1 "_law_thin" P_law_thin [] m_law_thin) (C_thinned : Callable P w K mg base ca 6 "thinned" P_thinned [] m_thinned) (C_widened : Callable P w K mg base ca 6 "widened" P_widened [] m_widened) : FnOk P w K mg base (L2N.CX P w) 9 f fd P_law_steps_right (spM K ca 4 m_law_steps_right) := by
  refine def_okT (N := N_law_steps_right) F sc_law_steps_right hcode fun A outer s H E hr => ?_
  have hu := hr.units
  have hu5 := hu_five hr
  have tk : L2N.Takes (cxOf (L2N.CX P w) P w K mg base N_law_steps_right "_law_steps_right" (defScope s_law_steps_right) f (.ref cc) A outer s H E) (fun c d _ H => E c d H) := L2N.takes_of rfl rfl rfl rfl
  exact (b_cons (s_set (i := 5) sc_law_steps_right.nd rfl (.inl rfl) (v_and (s_call C_law_is_number (hr.mono (by decide)) (by rfl) tk (a_cons (s_var (i := 2) rfl (.inr (.inl rfl))) a_nil) (len_dws (len_cons len_nil) rfl)) (v_and (s_call C_law_is_number (hr.mono (by decide)) (by rfl) tk (a_cons (s_var (i := 3) rfl (.inr (.inl rfl))) a_nil) (len_dws (len_cons len_nil) rfl)) (v_and (s_cmp op_gt says_C (s_var (i := 2) rfl (.inr (.inl rfl))) s_int (nomark _)) (v_one (s_cmp op_gt says_C (s_var (i := 3) rfl (.inr (.inl rfl))) s_int (nomark _))))))) (b_cons (s_set (i := 6) sc_law_steps_right.nd rfl (.inl rfl) (s_thunk (Nl := N_law_steps_right) (j := 6) C_law_refused (by rfl) TB rfl (by kernel_rfl) (hr.mono (by decide)) (by decide) (lamN_by (by kernel_rfl)) ⟨rfl, .inl rfl⟩ (thkB0 rfl fun _ _ _ _ _ => rfl) tk (fun A outer s1 H1 E f c' hr => by have hu := hr.units; have hu5 := hu_five hr; exact (s_call C_thinned (hr.mono (by decide)) (by rfl) (L2N.takes_of rfl rfl rfl rfl) (a_cons (s_var (i := 1) rfl (.inr (.inr rfl))) (a_cons (s_var (i := 2) rfl (.inr (.inr rfl))) (a_cons (s_var (i := 3) rfl (.inr (.inr rfl))) a_nil))) (len_dws (len_cons (len_cons (len_cons len_nil))) rfl))))) (b_cons (s_set (i := 7) sc_law_steps_right.nd rfl (.inl rfl) (s_thunk (Nl := N_law_steps_right) (j := 6) C_law_refused (by rfl) TB rfl (by kernel_rfl) (hr.mono (by decide)) (by decide) (lamN_by (by kernel_rfl)) ⟨rfl, .inr ⟨_, _, _, rfl⟩⟩ (thkB1 (x := "_law_more") rfl rfl fun _ _ _ _ _ _ _ => ⟨_, rfl, rfl⟩) tk (fun A outer s1 H1 E f c' hr => by have hu := hr.units; have hu5 := hu_five hr; exact (s_call C_widened (hr.mono (by decide)) (by rfl) (L2N.takes_of rfl rfl rfl rfl) (a_cons (s_var (i := 1) rfl (.inr (.inr rfl))) (a_cons (s_var (i := 2) rfl (.inr (.inr rfl))) (a_cons (s_var (i := 3) rfl (.inr (.inr rfl))) a_nil))) (len_dws (len_cons (len_cons (len_cons len_nil))) rfl))))) (b_cons (s_if (s_tnot (s_truth (s_var (i := 5) rfl (.inl rfl)))) (b_one (s_ret (s_cmp (op_eqA hu) says_eq (s_lst (a_cons (s_var (i := 6) rfl (.inl rfl)) (a_cons (s_var (i := 7) rfl (.inl rfl)) a_nil))) (s_bin op_mulA says_mul (s_lst (a_cons (s_tup (a_cons s_str (a_cons (s_lst (a_cons s_bl (a_cons s_bl (a_cons s_bl a_nil)))) (a_cons s_bl a_nil)))) a_nil)) s_int) (nomark _)))) b_nil) (b_cons (s_if (s_tnot (s_truth (s_call C_law_is_like (hr.mono (by decide)) (by rfl) tk (a_cons (s_var (i := 6) rfl (.inl rfl)) (a_cons (s_call C_law_thin (hr.mono (by decide)) (by rfl) tk (a_cons (s_var (i := 0) rfl (.inr (.inl rfl))) (a_cons (s_var (i := 2) rfl (.inr (.inl rfl))) (a_cons (s_var (i := 3) rfl (.inr (.inl rfl))) a_nil))) (len_dws (len_cons (len_cons (len_cons len_nil))) rfl)) a_nil)) (len_dws (len_cons (len_cons len_nil)) rfl)))) (b_one (s_ret s_bl)) b_nil) (b_cons (s_expr (s_call C_law_marked (hr.mono (by decide)) (by rfl) tk (a_cons (s_var (i := 6) rfl (.inl rfl)) a_nil) (len_dws (len_cons len_nil) rfl))) (b_cons (s_if (PW.pt (w_or (s_testCmp op_gt says_C (s_bin op_mulA says_mul (s_bi call_len says_len (by rfl) T.n_len bt_len (c_cons (s_ix (s_var (i := 0) rfl (.inr (.inl rfl))) s_int) c_nil)) (s_var (i := 2) rfl (.inr (.inl rfl)))) s_int (nomark _)) (w_or1 (s_testCmp op_gt says_C (s_bin op_mulA says_mul (s_bi call_len says_len (by rfl) T.n_len bt_len (c_cons (s_var (i := 0) rfl (.inr (.inl rfl))) c_nil)) (s_var (i := 3) rfl (.inr (.inl rfl)))) s_int (nomark _))))) (b_one (s_ret (s_cmp (op_eqA hu) says_eq (s_var (i := 7) rfl (.inl rfl)) (s_tup (a_cons s_str (a_cons (s_lst (a_cons s_bl (a_cons s_bl (a_cons s_bl a_nil)))) (a_cons s_bl a_nil)))) (nomark _)))) b_nil) (b_cons (s_set (i := 4) sc_law_steps_right.nd rfl (.inl rfl) (s_lst a_nil)) (b_cons (s_for (passes_of rfl) rfl (i_range1 (by rfl) T.n_range (a_cons (s_bin op_mulA says_mul (s_bi call_len says_len (by rfl) T.n_len bt_len (c_cons (s_var (i := 0) rfl (.inr (.inl rfl))) c_nil)) (s_var (i := 3) rfl (.inr (.inl rfl)))) a_nil)) (g_name (i := 8) sc_law_steps_right.nd rfl (.inr rfl)) (b_one (s_expr (s_mtF PySem.F.plainAttrs_list PySem.F.slot_list_append PySem.F.type_list_append mt_append says_app ty_list (s_var (i := 4) rfl (.inl rfl)) (a_cons (s_lc (own := [("_law_x", 9)]) rfl sc_law_steps_right.nd (i_range1 (by rfl) T.n_range (a_cons (s_bin op_mulA says_mul (s_bi call_len says_len (by rfl) T.n_len bt_len (c_cons (s_ix (s_var (i := 0) rfl (.inr (.inl rfl))) s_int) c_nil)) (s_var (i := 2) rfl (.inr (.inl rfl)))) a_nil)) (blkOk_by (N := N_law_steps_right) (sc := defScope s_law_steps_right) (by decide +kernel)) (fun _ _ _ _ _ => (pg_name (i := 9) sc_law_steps_right.nd rfl (by first | exact .inl rfl | exact .inr rfl))) tgt_name (own_name (by decide)) (fun _ _ _ _ _ => ts_nil) (fun _ _ _ _ _ => (s_ix (s_ix (s_var (i := 0) rfl (by first | exact .inr (.inl rfl) | exact .inr (.inr rfl) | exact .inl rfl)) (s_bin op_fdivW says_fdiv (s_var (i := 8) rfl (by first | exact .inr (.inl rfl) | exact .inr (.inr rfl) | exact .inl rfl)) (s_var (i := 3) rfl (by first | exact .inr (.inl rfl) | exact .inr (.inr rfl) | exact .inl rfl)))) (s_bin op_fdivW says_fdiv (s_var (i := 9) rfl (by first | exact .inl rfl | exact .inr (.inl rfl))) (s_var (i := 2) rfl (by first | exact .inr (.inl rfl) | exact .inr (.inr rfl) | exact .inl rfl)))))) a_nil))))) (b_cons (s_if (PW.pt (w_or (s_tnot (s_truth (s_call C_law_is_like (hr.mono (by decide)) (by rfl) tk (a_cons (s_var (i := 7) rfl (.inl rfl)) (a_cons (s_var (i := 4) rfl (.inl rfl)) a_nil)) (len_dws (len_cons (len_cons len_nil)) rfl)))) (w_or1 (s_tnot (s_truth (s_call C_law_is_like (hr.mono (by decide)) (by rfl) tk (a_cons (s_call C_thinned (hr.mono (by decide)) (by rfl) tk (a_cons (s_var (i := 7) rfl (.inl rfl)) (a_cons (s_var (i := 2) rfl (.inr (.inl rfl))) (a_cons (s_var (i := 3) rfl (.inr (.inl rfl))) a_nil))) (len_dws (len_cons (len_cons (len_cons len_nil))) rfl)) (a_cons (s_var (i := 0) rfl (.inr (.inl rfl))) a_nil)) (len_dws (len_cons (len_cons len_nil)) rfl))))))) (b_one (s_ret s_bl)) b_nil) (b_one (s_ret (v_and (s_call C_law_marked (hr.mono (by decide)) (by rfl) tk (a_cons (s_var (i := 7) rfl (.inl rfl)) a_nil) (len_dws (len_cons len_nil) rfl)) (v_one (s_cmp (op_eqA hu) says_eq (s_var (i := 1) rfl (.inr (.inl rfl))) (s_var (i := 0) rfl (.inr (.inl rfl))) (nomark _))))))))))))))))
abbrev s_law : Stmt := topS 33
abbrev N_law : List Str := ["_law_script", "_law_across", "_law_bad", "_law_down", "_law_due", "_law_found", "_law_handed", "_law_part_here", "_law_picture_here", "_law_told", "_law_turn"]
abbrev P_law : List Str := ["_law_script"]
theorem sc_law : FnScope N_law P_law (defScope s_law) := ⟨rfl, rfl, rfl, by decide +kernel, rfl, by decide +kernel, by decide +kernel⟩
noncomputable def b_law : MS :=
  (sSeq (sSet 8 (mCall m_law_picture [] (mCons (mVar 0) (mCons (mC (.int 0)) (mCons (mC (.int 8)) mNil))))) (sSeq (sSet 6 (mCall m_law_copied [] (mCons (mVar 8) mNil))) (sSeq (sSet 7 (mCall m_law_part [] (mCons (mVar 0) (mCons (mBi fLen (mConsT (mBin fIx (mVar 8) (mC (.int 0))) mNilT)) (mCons (mBi fLen (mConsT (mVar 8) mNilT)) mNil))))) (sSeq (sSet 4 (mCall m_law_cut [] (mCons (mVar 8) (mCons (mVar 7) mNil)))) (sSeq (sFor (miR (mCons (mC (.int 2)) mNil)) (gN 10) (sSeq (sSet 5 (mThunk 1 "law.<locals>.<lambda>" 3 t_law_refused (mCall m_cut_out [] (mCons (mVar 6) (mCons (mBin fIx (mVar 7) (mC (.int 0))) (mCons (mBin fIx (mVar 7) (mC (.int 1))) (mCons (mBin fIx (mVar 7) (mC (.int 2))) (mCons (mBin fIx (mVar 7) (mC (.int 3))) mNil)))))))) (sIf (mB (mBin fIs (mVar 4) (mC .non))) (sIf (mB (mBin fNe (mVar 5) (mTup (mCons (mC (.str "refused")) (mCons (mLst (mCons (mC (.bl false)) (mCons (mC (.bl true)) (mCons (mC (.bl false)) mNil)))) (mCons (mC (.bl true)) mNil)))))) (sRet (mC (.bl false))) sNext) (sIf (mNot (mTru (mCall m_law_is_like [] (mCons (mVar 5) (mCons (mVar 4) mNil))))) (sRet (mC (.bl false))) (sDrop (mCall m_law_marked [] (mCons (mVar 5) mNil))))))) (sSeq (sSet 1 (mCall m_law_step [] (mCons (mCall m_law_cell_at [] (mCons (mVar 0) (mCons (mC (.int 6)) mNil))) mNil))) (sSeq (sSet 3 (mCall m_law_step [] (mCons (mCall m_law_cell_at [] (mCons (mVar 0) (mCons (mC (.int 7)) mNil))) mNil))) (sSeq (sIf (mOr (mNot (mTru (mCall m_law_steps_right [] (mCons (mVar 8) (mCons (mVar 6) (mCons (mVar 1) (mCons (mVar 3) mNil))))))) (mB (mBin fNe (mVar 6) (mVar 8)))) (sRet (mC (.bl false))) sNext) (sSeq (sSet 2 (mBin fIx (mLst (mCons (mC .non) (mCons (mLst mNil) (mCons (mLst (mCons (mLst (mCons (mC (.int 16)) mNil)) mNil)) (mCons (mLst (mCons (mLst (mCons (mC (.int 1)) mNil)) (mCons (mLst (mCons (mC (.int 1)) (mCons (mC (.int 2)) mNil))) mNil))) (mCons (mC (.str "0")) mNil)))))) (mBin fMod (mCall m_law_cell_at [] (mCons (mVar 0) (mCons (mC (.int 8)) mNil))) (mC (.int 5))))) (sSeq (sSet 9 (mLst (mCons (mThunk 1 "law.<locals>.<lambda>" 3 t_law_refused (mCall m_cut_out [] (mCons (mVar 2) (mCons (mC .non) (mCons (mC (.int 0)) (mCons (mC (.int 0)) (mCons (mC (.int 0)) mNil))))))) (mCons (mThunk 1 "law.<locals>.<lambda>" 3 t_law_refused (mCall m_thinned [] (mCons (mVar 2) (mCons (mC (.int 0)) (mCons (mC (.int 0)) mNil))))) mNil)))) (sSeq (sDrop (mMtF isLst fApp (mVar 9) (mCons (mThunk 1 "law.<locals>.<lambda>" 3 t_law_refused (mCall m_widened [] (mCons (mVar 2) (mCons (mC (.int 0)) (mCons (mC (.int 0)) mNil))))) mNil))) (sRet (mBin fEq (mVar 9) (mBin fMul (mLst (mCons (mTup (mCons (mC (.str "refused")) (mCons (mLst (mCons (mC (.bl true)) (mCons (mC (.bl false)) (mCons (mC (.bl false)) mNil)))) (mCons (mC (.bl true)) mNil)))) mNil)) (mC (.int 3))))))))))))))))
noncomputable def m_law : List W → GH → R W := mDef 11 b_law
theorem ok_law {f : Addr} {fd : FuncData} {dvs : List V} (F : FunD K "law" "law" (defArgs s_law) (defBody s_law) (defScope s_law) dvs [] f fd) (T : Tx K mg ca) {cc : Addr} (hcode : ∀ (oc : Value) (od : Option Addr) (fd' : FuncData) (osl : Array (Option Value)), K.lookup f = some ⟨oc, od, .func fd', osl⟩ → fd'.code = .ref cc) (TB : LamX.TabB base mg cc (ca (1000 + 1))) (C_law_cell_at : Callable P w K mg base ca 1 "_law_cell_at" P_law_cell_at [] m_law_cell_at) (C_law_copied : Callable P w K mg base ca 1 "_law_copied" P_law_copied [] m_law_copied) (C_law_cut : Callable P w K mg base ca 2 "_law_cut" P_law_cut [] m_law_cut) (C_law_is_like : Callable P w K mg base ca 1 "_law_is_like" P_law_is_like [] m_law_is_like) (C_law_marked : Callable P w K mg base ca 1 "_law_marked" P_law_marked [] m_law_marked) (C_law_part : Callable P w K mg base ca 2 "_law_part" P_law_part [] m_law_part) (C_law_picture : Callable P w K mg base ca 2 "_law_picture" P_law_picture [] m_law_picture) (C_law_refused : CallT P w K mg base ca 0 "_law_refused" "_law_deed" 3 t_law_refused) (C_law_step : Callable P w K mg base ca 1 "_law_step" P_law_step [] m_law_step) (C_law_steps_right : Callable P w K mg base ca 9 "_law_steps_right" P_law_steps_right [] m_law_steps_right) (C_cut_out : Callable P w K mg base ca 6 "cut_out" P_cut_out [] m_cut_out) (C_thinned : Callable P w K mg base ca 6 "thinned" P_thinned [] m_thinned) (C_widened : Callable P w K mg base ca 6 "widened" P_widened [] m_widened) : FnOk P w K mg base (L2N.CX P w) 10 f fd P_law (spM K ca 1 m_law) := by
  refine def_okT (N := N_law) F sc_law hcode fun A outer s H E hr => ?_
  have hu := hr.units
  have hu5 := hu_five hr
  have tk : L2N.Takes (cxOf (L2N.CX P w) P w K mg base N_law "law" (defScope s_law) f (.ref cc) A outer s H E) (fun c d _ H => E c d H) := L2N.takes_of rfl rfl rfl rfl
  exact (b_cons (s_set (i := 8) sc_law.nd rfl (.inl rfl) (s_call C_law_picture (hr.mono (by decide)) (by rfl) tk (a_cons (s_var (i := 0) rfl (.inl rfl)) (a_cons s_int (a_cons s_int a_nil))) (len_dws (len_cons (len_cons (len_cons len_nil))) rfl))) (b_cons (s_set (i := 6) sc_law.nd rfl (.inr rfl) (s_call C_law_copied (hr.mono (by decide)) (by rfl) tk (a_cons (s_var (i := 8) rfl (.inl rfl)) a_nil) (len_dws (len_cons len_nil) rfl))) (b_cons (s_set (i := 7) sc_law.nd rfl (.inr rfl) (s_call C_law_part (hr.mono (by decide)) (by rfl) tk (a_cons (s_var (i := 0) rfl (.inl rfl)) (a_cons (s_bi call_len says_len (by rfl) T.n_len bt_len (c_cons (s_ix (s_var (i := 8) rfl (.inl rfl)) s_int) c_nil)) (a_cons (s_bi call_len says_len (by rfl) T.n_len bt_len (c_cons (s_var (i := 8) rfl (.inl rfl)) c_nil)) a_nil))) (len_dws (len_cons (len_cons (len_cons len_nil))) rfl))) (b_cons (s_set (i := 4) sc_law.nd rfl (.inl rfl) (s_call C_law_cut (hr.mono (by decide)) (by rfl) tk (a_cons (s_var (i := 8) rfl (.inl rfl)) (a_cons (s_var (i := 7) rfl (.inr (.inl rfl))) a_nil)) (len_dws (len_cons (len_cons len_nil)) rfl))) (b_cons (s_for (passes_of rfl) rfl (i_range1 (by rfl) T.n_range (a_cons s_int a_nil)) (g_name (i := 10) sc_law.nd rfl (.inl rfl)) (b_cons (s_set (i := 5) sc_law.nd rfl (.inl rfl) (s_thunk (Nl := N_law) (j := 6) C_law_refused (by rfl) TB rfl (by kernel_rfl) (hr.mono (by decide)) (by decide) (lamN_by (by kernel_rfl)) ⟨rfl, .inl rfl⟩ (thkB0 rfl fun _ _ _ _ _ => rfl) tk (fun A outer s1 H1 E f c' hr => by have hu := hr.units; have hu5 := hu_five hr; exact (s_call C_cut_out (hr.mono (by decide)) (by rfl) (L2N.takes_of rfl rfl rfl rfl) (a_cons (s_var (i := 6) rfl (.inr (.inr rfl))) (a_cons (s_ix (s_var (i := 7) rfl (.inr (.inr rfl))) s_int) (a_cons (s_ix (s_var (i := 7) rfl (.inr (.inr rfl))) s_int) (a_cons (s_ix (s_var (i := 7) rfl (.inr (.inr rfl))) s_int) (a_cons (s_ix (s_var (i := 7) rfl (.inr (.inr rfl))) s_int) a_nil))))) (len_dws (len_cons (len_cons (len_cons (len_cons (len_cons len_nil))))) rfl))))) (b_one (s_if (s_testCmp op_isA says_is (s_var (i := 4) rfl (.inl rfl)) s_non (nomark _)) (b_one (s_if (s_testCmp (op_neA hu) says_ne (s_var (i := 5) rfl (.inl rfl)) (s_tup (a_cons s_str (a_cons (s_lst (a_cons s_bl (a_cons s_bl (a_cons s_bl a_nil)))) (a_cons s_bl a_nil)))) (nomark _)) (b_one (s_ret s_bl)) b_nil)) (b_one (s_if (s_tnot (s_truth (s_call C_law_is_like (hr.mono (by decide)) (by rfl) tk (a_cons (s_var (i := 5) rfl (.inl rfl)) (a_cons (s_var (i := 4) rfl (.inl rfl)) a_nil)) (len_dws (len_cons (len_cons len_nil)) rfl)))) (b_one (s_ret s_bl)) (b_one (s_expr (s_call C_law_marked (hr.mono (by decide)) (by rfl) tk (a_cons (s_var (i := 5) rfl (.inl rfl)) a_nil) (len_dws (len_cons len_nil) rfl)))))))))) (b_cons (s_set (i := 1) sc_law.nd rfl (.inl rfl) (s_call C_law_step (hr.mono (by decide)) (by rfl) tk (a_cons (s_call C_law_cell_at (hr.mono (by decide)) (by rfl) tk (a_cons (s_var (i := 0) rfl (.inl rfl)) (a_cons s_int a_nil)) (len_dws (len_cons (len_cons len_nil)) rfl)) a_nil) (len_dws (len_cons len_nil) rfl))) (b_cons (s_set (i := 3) sc_law.nd rfl (.inl rfl) (s_call C_law_step (hr.mono (by decide)) (by rfl) tk (a_cons (s_call C_law_cell_at (hr.mono (by decide)) (by rfl) tk (a_cons (s_var (i := 0) rfl (.inl rfl)) (a_cons s_int a_nil)) (len_dws (len_cons (len_cons len_nil)) rfl)) a_nil) (len_dws (len_cons len_nil) rfl))) (b_cons (s_if (PW.pt (w_or (s_tnot (s_truth (s_call C_law_steps_right (hr.mono (by decide)) (by rfl) tk (a_cons (s_var (i := 8) rfl (.inl rfl)) (a_cons (s_var (i := 6) rfl (.inr (.inl rfl))) (a_cons (s_var (i := 1) rfl (.inl rfl)) (a_cons (s_var (i := 3) rfl (.inl rfl)) a_nil)))) (len_dws (len_cons (len_cons (len_cons (len_cons len_nil)))) rfl)))) (w_or1 (s_testCmp (op_neA hu) says_ne (s_var (i := 6) rfl (.inr (.inl rfl))) (s_var (i := 8) rfl (.inl rfl)) (nomark _))))) (b_one (s_ret s_bl)) b_nil) (b_cons (s_set (i := 2) sc_law.nd rfl (.inr rfl) (s_ix (s_lst (a_cons s_non (a_cons (s_lst a_nil) (a_cons (s_lst (a_cons (s_lst (a_cons s_int a_nil)) a_nil)) (a_cons (s_lst (a_cons (s_lst (a_cons s_int a_nil)) (a_cons (s_lst (a_cons s_int (a_cons s_int a_nil))) a_nil))) (a_cons s_str a_nil)))))) (s_bin op_mod says_mod (s_call C_law_cell_at (hr.mono (by decide)) (by rfl) tk (a_cons (s_var (i := 0) rfl (.inl rfl)) (a_cons s_int a_nil)) (len_dws (len_cons (len_cons len_nil)) rfl)) s_int))) (b_cons (s_set (i := 9) sc_law.nd rfl (.inl rfl) (s_lst (a_cons (s_thunk (Nl := N_law) (j := 6) C_law_refused (by rfl) TB rfl (by kernel_rfl) (hr.mono (by decide)) (by decide) (lamN_by (by kernel_rfl)) ⟨rfl, .inl rfl⟩ (thkB0 rfl fun _ _ _ _ _ => rfl) tk (fun A outer s1 H1 E f c' hr => by have hu := hr.units; have hu5 := hu_five hr; exact (s_call C_cut_out (hr.mono (by decide)) (by rfl) (L2N.takes_of rfl rfl rfl rfl) (a_cons (s_var (i := 2) rfl (.inr (.inr rfl))) (a_cons s_non (a_cons s_int (a_cons s_int (a_cons s_int a_nil))))) (len_dws (len_cons (len_cons (len_cons (len_cons (len_cons len_nil))))) rfl)))) (a_cons (s_thunk (Nl := N_law) (j := 6) C_law_refused (by rfl) TB rfl (by kernel_rfl) (hr.mono (by decide)) (by decide) (lamN_by (by kernel_rfl)) ⟨rfl, .inr ⟨_, _, _, rfl⟩⟩ (thkB1 (x := "_law_one") rfl rfl fun _ _ _ _ _ _ _ => ⟨_, rfl, rfl⟩) tk (fun A outer s1 H1 E f c' hr => by have hu := hr.units; have hu5 := hu_five hr; exact (s_call C_thinned (hr.mono (by decide)) (by rfl) (L2N.takes_of rfl rfl rfl rfl) (a_cons (s_var (i := 2) rfl (.inr (.inr rfl))) (a_cons s_int (a_cons s_int a_nil))) (len_dws (len_cons (len_cons (len_cons len_nil))) rfl)))) a_nil)))) (b_cons (s_expr (s_mtF PySem.F.plainAttrs_list PySem.F.slot_list_append PySem.F.type_list_append mt_append says_app ty_list (s_var (i := 9) rfl (.inl rfl)) (a_cons (s_thunk (Nl := N_law) (j := 6) C_law_refused (by rfl) TB rfl (by kernel_rfl) (hr.mono (by decide)) (by decide) (lamN_by (by kernel_rfl)) ⟨rfl, .inr ⟨_, _, _, rfl⟩⟩ (thkB1 (x := "_law_two") rfl rfl fun _ _ _ _ _ _ _ => ⟨_, rfl, rfl⟩) tk (fun A outer s1 H1 E f c' hr => by have hu := hr.units; have hu5 := hu_five hr; exact (s_call C_widened (hr.mono (by decide)) (by rfl) (L2N.takes_of rfl rfl rfl rfl) (a_cons (s_var (i := 2) rfl (.inr (.inr rfl))) (a_cons s_int (a_cons s_int a_nil))) (len_dws (len_cons (len_cons (len_cons len_nil))) rfl)))) a_nil))) (b_one (s_ret (s_cmp (op_eqA hu) says_eq (s_var (i := 9) rfl (.inl rfl)) (s_bin op_mulA says_mul (s_lst (a_cons (s_tup (a_cons s_str (a_cons (s_lst (a_cons s_bl (a_cons s_bl (a_cons s_bl a_nil)))) (a_cons s_bl a_nil)))) a_nil)) s_int) (nomark _)))))))))))))))
end
end Lk09
set_option Elab.async false
set_option linter.all false
set_option maxRecDepth 100000
set_option maxHeartbeats 4000000
namespace Lk09
open PySem PySem.Spec PyProof.Rows L2 Sy
/-! script, mixed numbers -/
def cellZ (ns : List Int) (k : Int) : Int := ns.getD k.toNat 0
abbrev scr (ns : List Int) : W := .frl (ns.map W.int)
@[simp] theorem fLen_frl (ws : List W) (G : GH) : fLen [.val (.frl ws)] G = .ok (.val (.int ws.length)) G := (rfl)
theorem fIx_frl {ws : List W} {k : Nat} {w : W} {G : GH} (h : ws[k]? = some w) : fIx (.val (.frl ws)) (.val (.int k)) G = .ok (.val w) G := by
  unfold fIx
  simp [atI_nat h]
theorem cell_eq (ns : List Int) (k : Int) (hk : 0 ≤ k) (G : GH) : m_law_cell_at [scr ns, .int k] G = .ok (.int (cellZ ns k)) G := by
  refine mDef_ok [some (scr ns), some (.int k)] ?_
  obtain ⟨k, rfl⟩ := Int.eq_ofNat_of_zero_le hk
  unfold b_law_cell_at cellZ
  by_cases h : k < ns.length
  · have e : (ns.map W.int)[k]? = some (.int ns[k]) := by simp [h]
    simp [h, fIx_frl e]
  · simp [h]
def mixN (c k : Int) : Int := c % 1000000007 + 7919 * k + 13
def mixZ (c k : Int) : Int := mixN c k * mixN c k % 1000000007 * mixN c k % 998244353 / 11
theorem bits_small {z : Int} {m : Nat} (h0 : 0 ≤ z) (h : z < 2 ^ m) : Builtin.Int.intBits z ≤ m := by
  rw [PySem.intBits_le_iff]
  obtain ⟨n, rfl⟩ := Int.eq_ofNat_of_zero_le h0
  have : ((n : Nat) : Int) < ((2 ^ m : Nat) : Int) := by simpa using h
  simpa using Int.ofNat_lt.mp this
theorem mixed_eq (c k : Int) (h0 : 0 ≤ k) (hk : k ≤ 1000000) (G : GH) : m_law_mixed [.int c, .int k] G = .ok (.int (mixZ c k)) G := by
  refine mDef_ok [some (.int c), some (.int k), none] ?_
  unfold b_law_mixed mixZ
  have hm0 := Int.emod_nonneg c (show (1000000007 : Int) ≠ 0 by decide)
  have hm1 := Int.emod_lt_of_pos c (show (0 : Int) < 1000000007 by decide)
  have m1 : mulOk 7919 k = true := mulOk_of (a := 13) (b := 20) (by decide) (bits_small h0 (by omega)) (by decide)
  have hb : Builtin.Int.intBits (mixN c k) ≤ 40 := bits_small (by unfold mixN; omega) (by unfold mixN; omega)
  have hy : c % 1000000007 + 7919 * k + 13 = mixN c k := rfl
  generalize mixN c k = y at *
  have m2 : mulOk y y = true := mulOk_of hb hb (by decide)
  have m3 : mulOk (y * y % 1000000007) y = true := mulOk_of (a := 30) (b := 40) (bits_small (Int.emod_nonneg _ (by decide)) (Int.lt_trans (Int.emod_lt_of_pos _ (by decide)) (by decide))) hb (by decide)
  simp [fMul_int, fFdiv_int, fMod_int, m1, hy, m2, m3, show Nat.log2 11 < 9000 by decide]
theorem mixZ_nonneg (c k : Int) : 0 ≤ mixZ c k := by
  unfold mixZ
  generalize mixN c k * mixN c k % 1000000007 * mixN c k = y
  have := Int.emod_nonneg y (show (998244353 : Int) ≠ 0 by decide)
  omega
theorem mixZ_lt (c k : Int) : mixZ c k < 90749487 := by
  unfold mixZ
  generalize mixN c k * mixN c k % 1000000007 * mixN c k = y
  have := Int.emod_lt_of_pos y (show (0 : Int) < 998244353 by decide)
  omega
/-! among, cells -/
def amongW (lo hi : Int) : W → Bool
  | .int i => decide (lo ≤ i) && decide (i ≤ hi)
  | _ => false
abbrev okW (G : GH) (w : W) : Prop := (tyOf G (.val w)).isSome = true
theorem among_eq {G : GH} {w : W} (h : okW G w) (lo hi : Int) : m_is_among [w, .int lo, .int hi] G = .ok (.bl (amongW lo hi w)) G := by
  refine mDef_ok [some w, some (.int lo), some (.int hi)] ?_
  unfold b_is_among
  cases w with
  | int i =>
    simp [amongW]
    by_cases h1 : lo ≤ i
    · simp [h1]
    · simp [h1]
  | bl b => simp [amongW]
  | non => simp [amongW]
  | str x => simp [amongW]
  | tup ws => simp [amongW]
  | loc n =>
    have e : ∃ a, tyOf G (.val (.loc n)) = some a ∧ subTy a "int" = some false := by
      unfold okW tyOf at h
      unfold tyOf
      dsimp only at h ⊢
      cases e : G[n]? with
      | none => rw [e] at h; cases h
      | some o =>
        rw [e] at h
        cases o with
        | lst ws => exact ⟨_, rfl, by decide⟩
        | dK ws => exact ⟨_, rfl, by decide⟩
        | dT ws => exact ⟨_, rfl, by decide⟩
        | ins c fs => cases h
        | tb k q => cases h
    obtain ⟨a, e1, e2⟩ := e
    have := isi_of e1 e2
    simp [amongW, this]
  | frl ws =>
    have := isi_of (G := G) (t := .val (.frl ws)) (a := "list") (b := "int") (r := false) rfl (by decide)
    simp [amongW, this]
  | ty n => cases h
  | cls n => cases h
  | exn n a => cases h
abbrev cellW : W → Bool := amongW 0 15
theorem is_cell_eq {G : GH} {w : W} (h : okW G w) : m_is_cell [w] G = .ok (.bl (cellW w)) G := by
  refine mDef_ok [some w] ?_
  unfold b_is_cell
  simp [among_eq h]
theorem okW_int (G : GH) (i : Int) : okW G (.int i) := rfl
theorem are_cells_eq {G : GH} {n : Nat} {ws : List W} (h : G[n]? = some (.lst ws)) (hl : ws.length ≤ 16777216) (hw : ∀ w ∈ ws, okW G w) : m_are_cells [.loc n] G = .ok (.bl (ws.all cellW)) G := by
  refine mDef_ok [some (.loc n), none] ?_
  unfold b_are_cells
  have hc : compF [(n, ws)] (gN 1) mYes (mCall m_is_cell [] (mCons (mVar 1) mNil)) [some (.loc n), none] ws G = .ok (ws.map fun w => W.bl (cellW w)) G :=
    compF_map (fun w => .bl (cellW w)) (still_of h) fun w hw' => ⟨_, rfl, rfl, by simp [is_cell_eq (hw w hw')]⟩
  have hit := iterA_loc (G := G) (n := n) (ws := ws) (by simp [h])
  have hall := fAll_tmp (ws.map cellW) G
  rw [List.map_map] at hall
  have e : (ws.map fun w => W.bl (cellW w)) = ws.map (W.bl ∘ cellW) := rfl
  rw [e] at hc
  generalize ws.map (W.bl ∘ cellW) = L at hc hall
  simp [isi_lst_list h, mComp_at, miA_at, hit, wipeS, hl, hc, hall]
theorem cells_no_list {G : GH} {w : W} {a : String} (ht : tyOf G (.val w) = some a) (ha : subTy a "list" = some false) : m_are_cells [w] G = .ok (.bl false) G := by
  refine mDef_ok [some w, none] ?_
  unfold b_are_cells
  simp [isi_of ht ha]
/-! good pictures -/
structure Good (pic : List (List Int)) (wide : Nat) : Prop where
  h0 : 0 < pic.length
  h1 : pic.length ≤ 24
  w0 : 0 < wide
  w1 : wide ≤ 24
  row : ∀ r ∈ pic, r.length = wide
  cell : ∀ r ∈ pic, ∀ c ∈ r, 0 ≤ c ∧ c ≤ 15
theorem Good.first {pic : List (List Int)} {wide : Nat} (g : Good pic wide) : ∃ r, pic[0]? = some r ∧ r.length = wide := by
  have h := g.h0
  refine ⟨pic[0], List.getElem?_eq_getElem h, g.row _ (List.getElem_mem h)⟩
theorem fIx_loc {G : GH} {n : Nat} {ws : List W} {k : Nat} {w : W} (h : G[n]? = some (.lst ws)) (hk : ws[k]? = some w) : fIx (.val (.loc n)) (.val (.int k)) G = .ok (.val w) G := by
  unfold fIx
  simp [h, atI_nat hk]
theorem fIx_loc0 {G : GH} {n : Nat} {ws : List W} {w : W} (h : G[n]? = some (.lst ws)) (hk : ws[0]? = some w) : fIx (.val (.loc n)) (.val (.int 0)) G = .ok (.val w) G := fIx_loc h hk
theorem iterA_at {G : GH} {n : Nat} {ws : List W} (h : G[n]? = some (.lst ws)) : iterA (.val (.loc n)) G = .ok (ws, [(n, ws)]) G := iterA_loc (by simp [h])
theorem all_true {α : Type} {p : α → Bool} {l : List α} (h : ∀ x ∈ l, p x = true) : l.all p = true := List.all_eq_true.mpr h
theorem is_picture_good {G : GH} {n : Nat} {ms : List Nat} {pic : List (List Int)} {wide : Nat} (h : RowsAt G n ms (pic.map iW)) (g : Good pic wide) : m_is_picture [.loc n] G = .ok (.bl true) G := by
  refine mDef_ok [some (.loc n), none] ?_
  unfold b_is_picture
  have hl : ms.length = pic.length := by rw [h.len, List.length_map]
  have h0 := g.h0
  have h1 := g.h1
  obtain ⟨r0, e0, l0⟩ := g.first
  obtain ⟨m0, f0, g0⟩ := paired_nth h.row (i := 0) (y := iW r0) (by rw [List.getElem?_map, e0]; rfl)
  have ht0 : (ms.map W.loc)[0]? = some (.loc m0) := by rw [List.getElem?_map, f0]; rfl
  have hix := fIx_loc0 h.top ht0
  have hlen0 : fLen [.val (.loc m0)] G = .ok (.val (.int wide)) G := by rw [fLen_loc g0, List.length_map, l0]
  have hlen : fLen [.val (.loc n)] G = .ok (.val (.int pic.length)) G := by rw [fLen_loc h.top, List.length_map, hl]
  have hit := iterA_at h.top
  have hc1 : compF [(n, ms.map W.loc)] (gN 1) mYes (mCall m_are_cells [] (mCons (mVar 1) mNil)) [some (.loc n), none] (ms.map W.loc) G = .ok ((ms.map W.loc).map fun _ => W.bl true) G := by
    refine compF_map (fun _ => .bl true) (still_of h.top) fun w hw => ⟨_, rfl, rfl, ?_⟩
    obtain ⟨m, hm, rfl⟩ := List.mem_map.mp hw
    obtain ⟨r, hr, e⟩ := paired_mem h.row m hm
    obtain ⟨is, his, rfl⟩ := List.mem_map.mp hr
    have hlr := g.row is his
    have hw1 := g.w1
    have := are_cells_eq e (by rw [List.length_map]; omega) (fun w hw => by obtain ⟨i, _, rfl⟩ := List.mem_map.mp hw; rfl)
    have ha : (iW is).all cellW = true := all_true fun w hw => by
      obtain ⟨i, hi, rfl⟩ := List.mem_map.mp hw
      have := g.cell is his i hi
      simp [cellW, amongW, this.1, this.2]
    rw [ha] at this
    simp [this]
  have hc2 : compF [(n, ms.map W.loc)] (gN 1) mYes (mBin fEq (mBi fLen (mConsT (mVar 1) mNilT)) (mBi fLen (mConsT (mBin fIx (mVar 0) (mC (.int 0))) mNilT))) [some (.loc n), none] (ms.map W.loc) G = .ok ((ms.map W.loc).map fun _ => W.bl true) G := by
    refine compF_map (fun _ => .bl true) (still_of h.top) fun w hw => ⟨_, rfl, rfl, ?_⟩
    obtain ⟨m, hm, rfl⟩ := List.mem_map.mp hw
    obtain ⟨r, hr, e⟩ := paired_mem h.row m hm
    obtain ⟨is, his, rfl⟩ := List.mem_map.mp hr
    have hlm : fLen [.val (.loc m)] G = .ok (.val (.int wide)) G := by rw [fLen_loc e, List.length_map, g.row is his]
    simp [hlm, hix, hlen0]
  have hall := fAll_yes (ms.map W.loc) G
  have hl3 : (ms.map W.loc).length ≤ 16777216 := by rw [List.length_map]; omega
  have hlist := isi_lst_list h.top
  have hw0 := g.w0
  have hw1 := g.w1
  generalize (ms.map W.loc).map (fun _ => W.bl true) = L at hc1 hc2 hall
  generalize ms.map W.loc = ws at *
  have i1 : (1 : Int) ≤ pic.length := by omega
  have i2 : (pic.length : Int) ≤ 24 := by omega
  have i3 : (1 : Int) ≤ wide := by omega
  have i4 : (wide : Int) ≤ 24 := by omega
  rw [seq_no (G1 := G) (by simp [hlist, hlen, i1, i2, mComp_at, miA_at, hit, wipeS, hl3, hc1, hall])]
  simp [hix, hlen0, i3, i4, mComp_at, miA_at, hit, wipeS, hl3, hc2, hall]
theorem need_picture_good {G : GH} {n : Nat} {ms : List Nat} {pic : List (List Int)} {wide : Nat} (h : RowsAt G n ms (pic.map iW)) (g : Good pic wide) : m_need_picture [.loc n] G = .ok .non G := by
  refine mDef_nx [some (.loc n)] ?_ (τ1 := [some (.loc n)])
  unfold b_need_picture
  simp [is_picture_good h g]
theorem no_picture {G : GH} {w : W} {a : String} (ht : tyOf G (.val w) = some a) (ha : subTy a "list" = some false) : m_is_picture [w] G = .ok (.bl false) G := by
  refine mDef_ok [some w, none] ?_
  unfold b_is_picture
  rw [seq_yes (G1 := G) (by simp [isi_of ht ha])]
  simp
end Lk09
set_option Elab.async false
set_option linter.all false
set_option maxRecDepth 100000
set_option maxHeartbeats 4000000
namespace Lk09
open PySem PySem.Spec PyProof.Rows L2 Sy
/-! drawn pictures -/
theorem nat_of {z : Int} (h : 0 ≤ z) : ∃ n : Nat, z = n := Int.eq_ofNat_of_zero_le h
theorem in62_small {z : Int} (h0 : 0 ≤ z) (h : z ≤ 1000000) : in62 z = true := in62_of (by omega) (by omega)
theorem iterR_nat (n : Nat) (h : n ≤ 1000000) (G : GH) : iterR [.int n] G = .ok (rangeW 0 n, []) G := by
  rw [iterR_ok (in62_small (by omega) (by omega))]; rfl
theorem mem_range {n : Nat} {w : W} (h : w ∈ rangeW 0 n) : ∃ i : Nat, i < n ∧ w = .int i := by
  obtain ⟨i, hi⟩ := List.getElem?_of_mem h
  obtain ⟨h1, h2⟩ := rangeW_get hi
  exact ⟨i, h1, by rw [h2, Int.zero_add]⟩
theorem rangeW_map {n : Nat} {β : Type} (f : W → β) (g : Nat → β) (h : ∀ i : Nat, f (.int i) = g i) : (rangeW 0 n).map f = (List.range n).map g := by
  unfold rangeW
  rw [List.map_map]
  apply List.map_congr_left
  intro i _
  show f (.int (0 + (i : Int))) = g i
  rw [Int.zero_add, h]
theorem log2_small {z : Int} (h0 : 0 < z) (h : z ≤ 1000000000) : z.natAbs.log2 < 9000 := by
  obtain ⟨n, rfl⟩ := Int.eq_ofNat_of_zero_le (Int.le_of_lt h0)
  have hn : n < 2 ^ 31 := by omega
  have h1 : n ≠ 0 := by omega
  have := (Nat.log2_lt h1).mpr hn
  show n.log2 < 9000
  omega
def rowZ (base cells hues : Int) (wide y : Nat) : List Int := (List.range wide).map fun (x : Nat) => (base + mixZ cells (24 * (y : Int) + (x : Int)) % hues) % 16
def picZ (base cells hues : Int) (wide high : Nat) : List (List Int) := (List.range high).map (rowZ base cells hues wide)
theorem picZ_good {base cells hues : Int} {wide high : Nat} (h0 : 0 < high) (h1 : high ≤ 24) (w0 : 0 < wide) (w1 : wide ≤ 24) : Good (picZ base cells hues wide high) wide := by
  refine ⟨by simp [picZ, h0], by simp [picZ, h1], w0, w1, fun r hr => ?_, fun r hr c hc => ?_⟩
  · obtain ⟨y, _, rfl⟩ := List.mem_map.mp hr
    simp [rowZ]
  · obtain ⟨y, _, rfl⟩ := List.mem_map.mp hr
    obtain ⟨x, _, rfl⟩ := List.mem_map.mp hc
    have := Int.emod_nonneg (base + mixZ cells (24 * (y : Int) + (x : Int)) % hues) (show (16 : Int) ≠ 0 by decide)
    have := Int.emod_lt_of_pos (base + mixZ cells (24 * (y : Int) + (x : Int)) % hues) (show (0 : Int) < 16 by decide)
    omega
theorem side_pos {z m : Int} (h : 0 < m) (h2 : m ≤ 24) : ∃ n : Nat, 1 + z % m = n ∧ 0 < n ∧ n ≤ 24 := by
  have h3 := Int.emod_nonneg z (show m ≠ 0 by omega)
  have h4 := Int.emod_lt_of_pos z h
  obtain ⟨n, hn⟩ := nat_of (show 0 ≤ 1 + z % m by omega)
  exact ⟨n, hn, by omega, by omega⟩
theorem hues_at (z : Int) : ∃ h : Int, 0 < h ∧ h ≤ 16 ∧ ∀ G, fIx (.tmp [.int 16, .int 2, .int 3, .int 4]) (.val (.int (z % 4))) G = .ok (.val (.int h)) G := by
  have h3 := Int.emod_nonneg z (show (4 : Int) ≠ 0 by decide)
  have h4 := Int.emod_lt_of_pos z (show (0 : Int) < 4 by decide)
  obtain ⟨n, hn⟩ := nat_of h3
  rw [hn] at h4 ⊢
  have : n = 0 ∨ n = 1 ∨ n = 2 ∨ n = 3 := by omega
  rcases this with rfl | rfl | rfl | rfl
  · exact ⟨16, by decide, by decide, fun G => rfl⟩
  · exact ⟨2, by decide, by decide, fun G => rfl⟩
  · exact ⟨3, by decide, by decide, fun G => rfl⟩
  · exact ⟨4, by decide, by decide, fun G => rfl⟩
theorem rows_comp (base cells hues : Int) (wide high : Nat) (hh : 0 < hues) (w1 : wide ≤ 24) (h1 : high ≤ 24) (a0 a1 a2 a5 a7 : Option W) (G : GH) :
    (sRet (mComp (miR (mCons (mVar 5) mNil)) (gN 9) mYes (mComp (miR (mCons (mVar 8) mNil)) (gN 10) mYes (mBin fMod (mBin fAdd (mVar 3) (mBin fMod (mCall m_law_mixed [] (mCons (mVar 4) (mCons (mBin fAdd (mBin fMul (mC (.int 24)) (mVar 9)) (mVar 10)) mNil))) (mVar 6))) (mC (.int 16))) [10]) [9]))
      [a0, a1, a2, some (.int base), some (.int cells), some (.int high), some (.int hues), a7, some (.int wide), none, none] G =
    .rt (.loc (G.length + (picZ base cells hues wide high).length)) (laidR G ((picZ base cells hues wide high).map iW)) := by
  have inner : ∀ (y : Nat), y < high → ∀ xs : GH, mComp (miR (mCons (mVar 8) mNil)) (gN 10) mYes (mBin fMod (mBin fAdd (mVar 3) (mBin fMod (mCall m_law_mixed [] (mCons (mVar 4) (mCons (mBin fAdd (mBin fMul (mC (.int 24)) (mVar 9)) (mVar 10)) mNil))) (mVar 6))) (mC (.int 16))) [10]
      [a0, a1, a2, some (.int base), some (.int cells), some (.int high), some (.int hues), a7, some (.int wide), some (.int y), none] (G ++ xs) = .ok (.tmp (iW (rowZ base cells hues wide y))) (G ++ xs) := by
    intro y hy xs
    have hc : compF [] (gN 10) mYes (mBin fMod (mBin fAdd (mVar 3) (mBin fMod (mCall m_law_mixed [] (mCons (mVar 4) (mCons (mBin fAdd (mBin fMul (mC (.int 24)) (mVar 9)) (mVar 10)) mNil))) (mVar 6))) (mC (.int 16)))
        [a0, a1, a2, some (.int base), some (.int cells), some (.int high), some (.int hues), a7, some (.int wide), some (.int y), none] (rangeW 0 wide) (G ++ xs) = .ok (iW (rowZ base cells hues wide y)) (G ++ xs) := by
      unfold iW rowZ
      rw [List.map_map, ← rangeW_map (fun w => match w with | .int x => W.int ((base + mixZ cells (24 * (y : Int) + x) % hues) % 16) | _ => .non) (W.int ∘ fun (x : Nat) => (base + mixZ cells (24 * (y : Int) + (x : Int)) % hues) % 16) (fun i => rfl)]
      refine compF_map _ still_nil fun w hw => ⟨_, rfl, rfl, ?_⟩
      obtain ⟨x, hx, rfl⟩ := mem_range hw
      have m1 : mulOk 24 (y : Int) = true := mulOk_of (a := 5) (b := 20) (by decide) (bits_small (by omega) (by omega)) (by decide)
      have hm := mixed_eq cells (24 * y + x) (by omega) (by omega)
      simp [fMul_int, m1, hm, fMod_int, hh]
    simp [mComp_at, miR_at, iterR_nat wide (by omega), wipeS, hc, show wide ≤ 16777216 by omega]
  have hout : compF [] (gN 9) mYes (mComp (miR (mCons (mVar 8) mNil)) (gN 10) mYes (mBin fMod (mBin fAdd (mVar 3) (mBin fMod (mCall m_law_mixed [] (mCons (mVar 4) (mCons (mBin fAdd (mBin fMul (mC (.int 24)) (mVar 9)) (mVar 10)) mNil))) (mVar 6))) (mC (.int 16))) [10])
      [a0, a1, a2, some (.int base), some (.int cells), some (.int high), some (.int hues), a7, some (.int wide), none, none] (rangeW 0 high) G = .ok (locs G.length high) (G ++ ((picZ base cells hues wide high).map iW).map GO.lst) := by
    have := compF_alloc (src := []) (g := gN 9) (c := mYes) (G := G) (ws := rangeW 0 high) (τ := [a0, a1, a2, some (.int base), some (.int cells), some (.int high), some (.int hues), a7, some (.int wide), none, none])
      (e := mComp (miR (mCons (mVar 8) mNil)) (gN 10) mYes (mBin fMod (mBin fAdd (mVar 3) (mBin fMod (mCall m_law_mixed [] (mCons (mVar 4) (mCons (mBin fAdd (mBin fMul (mC (.int 24)) (mVar 9)) (mVar 10)) mNil))) (mVar 6))) (mC (.int 16))) [10])
      (fun w => match w with | .int y => iW (rowZ base cells hues wide y.toNat) | _ => []) (fun _ => still_nil) (fun w hw xs => by
        obtain ⟨y, hy, rfl⟩ := mem_range hw
        exact ⟨_, rfl, rfl, inner y hy xs⟩)
    rw [this, rangeW_len]
    congr 2
    rw [rangeW_map _ (fun y => GO.lst (iW (rowZ base cells hues wide y))) (fun i => rfl)]
    unfold picZ
    rw [List.map_map, List.map_map]; rfl
  have hlen : (picZ base cells hues wide high).length = high := by simp [picZ]
  unfold laidR
  generalize picZ base cells hues wide high = P at *
  subst hlen
  simp [mComp_at, miR_at, iterR_nat P.length (by omega), wipeS, hout, show P.length ≤ 16777216 by omega]
theorem picture_eq (ns : List Int) (at_ most : Int) (ha : 0 ≤ at_) (hm : 0 < most) (hm2 : most ≤ 24) : ∃ pic wide, Good pic wide ∧ ∀ G, m_law_picture [scr ns, .int at_, .int most] G = .ok (.loc (G.length + pic.length)) (laidR G (pic.map iW)) := by
  have c0 := cell_eq ns at_ ha
  have c1 := cell_eq ns (at_ + 1) (by omega)
  have c2 := cell_eq ns (at_ + 2) (by omega)
  generalize cellZ ns at_ = side at *
  generalize cellZ ns (at_ + 1) = z1 at *
  generalize cellZ ns (at_ + 2) = cells at *
  have hl := log2_small hm (by omega)
  obtain ⟨hues, hh0, hh1, hhe⟩ := hues_at z1
  obtain ⟨wide, high, ⟨w0, w1, h0, h1⟩, hstep⟩ : ∃ wide high : Nat, (0 < wide ∧ wide ≤ 24 ∧ 0 < high ∧ high ≤ 24) ∧ ∀ (b : MS) (a3 a4 a6 a9 a10 : Option W) (G : GH),
      sSeq (sIf (mB (mBin fEq (mBin fMod (mBin fFdiv (mBin fFdiv (mVar 7) (mVar 2)) (mVar 2)) (mC (.int 8))) (mC (.int 1)))) (sSet 8 (mBin fAdd (mC (.int 1)) (mBin fMod (mBin fFdiv (mBin fFdiv (mBin fFdiv (mVar 7) (mVar 2)) (mVar 2)) (mC (.int 8))) (mC (.int 24))))) (sIf (mB (mBin fEq (mBin fMod (mBin fFdiv (mBin fFdiv (mVar 7) (mVar 2)) (mVar 2)) (mC (.int 8))) (mC (.int 2)))) (sSet 5 (mBin fAdd (mC (.int 1)) (mBin fMod (mBin fFdiv (mBin fFdiv (mBin fFdiv (mVar 7) (mVar 2)) (mVar 2)) (mC (.int 8))) (mC (.int 24))))) sNext)) b
        [some (scr ns), some (.int at_), some (.int most), a3, a4, some (.int (1 + side / most % most)), a6, some (.int side), some (.int (1 + side % most)), a9, a10] G =
      b [some (scr ns), some (.int at_), some (.int most), a3, a4, some (.int high), a6, some (.int side), some (.int wide), a9, a10] G := by
    obtain ⟨w, ew, w0, w1⟩ := side_pos (z := side) hm hm2
    obtain ⟨h, eh, h0, h1⟩ := side_pos (z := side / most) hm hm2
    obtain ⟨f, ef, f0, f1⟩ := side_pos (z := side / most / most / 8) (m := 24) (by decide) (by decide)
    have l8 : Nat.log2 8 < 9000 := by decide
    by_cases k1 : side / most / most % 8 = 1
    · refine ⟨f, h, ⟨f0, f1, h0, h1⟩, fun b a3 a4 a6 a9 a10 G => ?_⟩
      rw [ew, eh]
      simp [fFdiv_int, fMod_int, hm, hl, l8, k1, ef]
    · by_cases k2 : side / most / most % 8 = 2
      · refine ⟨w, f, ⟨w0, w1, f0, f1⟩, fun b a3 a4 a6 a9 a10 G => ?_⟩
        rw [ew, eh]
        simp [fFdiv_int, fMod_int, hm, hl, l8, k2, ef]
      · refine ⟨w, h, ⟨w0, w1, h0, h1⟩, fun b a3 a4 a6 a9 a10 G => ?_⟩
        rw [ew, eh]
        simp [fFdiv_int, fMod_int, hm, hl, l8, k1, k2]
  refine ⟨picZ (z1 / 4 % 16) cells hues wide high, wide, picZ_good h0 h1 w0 w1, fun G => mDef_ok [some (scr ns), some (.int at_), some (.int most), none, none, none, none, none, none, none, none] ?_⟩
  unfold b_law_picture
  rw [seq_nx (τ1 := [some (scr ns), some (.int at_), some (.int most), none, none, none, none, some (.int side), none, none, none]) (G1 := G) (by simp [c0])]
  rw [seq_nx (τ1 := [some (scr ns), some (.int at_), some (.int most), none, none, none, none, some (.int side), some (.int (1 + side % most)), none, none]) (G1 := G) (by simp [fMod_int, hm])]
  rw [seq_nx (τ1 := [some (scr ns), some (.int at_), some (.int most), none, none, some (.int (1 + side / most % most)), none, some (.int side), some (.int (1 + side % most)), none, none]) (G1 := G) (by simp [fMod_int, fFdiv_int, hm, hl])]
  rw [hstep]
  rw [seq_nx (τ1 := [some (scr ns), some (.int at_), some (.int most), none, none, some (.int high), some (.int hues), some (.int side), some (.int wide), none, none]) (G1 := G) (by simp [c1, fMod_int, hhe])]
  rw [seq_nx (τ1 := [some (scr ns), some (.int at_), some (.int most), some (.int (z1 / 4 % 16)), none, some (.int high), some (.int hues), some (.int side), some (.int wide), none, none]) (G1 := G) (by simp [c1, fMod_int, fFdiv_int, show Nat.log2 4 < 9000 by decide])]
  rw [seq_nx (τ1 := [some (scr ns), some (.int at_), some (.int most), some (.int (z1 / 4 % 16)), some (.int cells), some (.int high), some (.int hues), some (.int side), some (.int wide), none, none]) (G1 := G) (by simp [c2])]
  exact rows_comp _ _ _ _ _ hh0 w1 h1 _ _ _ none _ G
end Lk09
set_option Elab.async false
set_option linter.all false
set_option maxRecDepth 100000
set_option maxHeartbeats 4000000
namespace Lk09
open PySem PySem.Spec PyProof.Rows L2 Sy
/-! copies, likeness, all cells -/
theorem copied_eq {G : GH} {n : Nat} {ms : List Nat} {rows : List (List W)} (h : RowsAt G n ms rows) (hl : rows.length ≤ 16777216) : m_law_copied [.loc n] G = .ok (.loc (G.length + rows.length)) (laidR G rows) := by
  refine mDef_ok [some (.loc n), none] ?_
  unfold b_law_copied
  have hc : compF [(n, ms.map W.loc)] (gN 1) mYes (mBi fList (mConsT (mVar 1) mNilT)) [some (.loc n), none] (ms.map W.loc) G = .ok (locs G.length rows.length) (G ++ rows.map fun r => .lst r) := by
    refine compF_allocP (fun r => r) (fun xs => still_of (get_mono h.top xs)) (paired_map (paired_imp h.row fun m r e xs => ⟨_, rfl, rfl, ?_⟩))
    have := fList_loc (get_mono e xs)
    simp [this]
  have hit := iterA_at h.top
  have hlm : (ms.map W.loc).length ≤ 16777216 := by rw [List.length_map, h.len]; exact hl
  unfold laidR
  generalize ms.map W.loc = ws at *
  simp [mComp_at, miA_at, hit, wipeS, hlm, hc]
theorem zip_at {ms ks : List Nat} {i : Nat} {w : W} (h : (zipW (ms.map W.loc) (ks.map W.loc))[i]? = some w) : ∃ m k, ms[i]? = some m ∧ ks[i]? = some k ∧ w = .tup [.loc m, .loc k] := by
  unfold zipW at h
  rw [List.getElem?_map] at h
  cases e : ((ms.map W.loc).zip (ks.map W.loc))[i]? with
  | none => rw [e] at h; cases h
  | some p =>
    rw [e] at h
    obtain ⟨a, b⟩ := p
    rw [List.getElem?_zip_eq_some, List.getElem?_map, List.getElem?_map] at e
    obtain ⟨e1, e2⟩ := e
    cases e3 : ms[i]? with
    | none => rw [e3] at e1; cases e1
    | some m =>
      cases e4 : ks[i]? with
      | none => rw [e4] at e2; cases e2
      | some k =>
        rw [e3] at e1; rw [e4] at e2
        cases e1; cases e2; cases h
        exact ⟨m, k, rfl, rfl, rfl⟩
theorem paired_right {α β : Type} {P : α → β → Prop} {xs : List α} {ys : List β} (h : Paired P xs ys) {i : Nat} {x : α} (e : xs[i]? = some x) : ∃ y, ys[i]? = some y ∧ P x y := by
  have hl : i < ys.length := by rw [← h.length]; exact (List.getElem?_eq_some_iff.mp e).1
  exact ⟨_, List.getElem?_eq_getElem hl, paired_get h i _ _ e (List.getElem?_eq_getElem hl)⟩
theorem ints_whole (is : List Int) (s0 s1 s2 s3 s4 s5 : Option W) {G : GH} {k : Nat} (h : G[k]? = some (.lst (iW is))) (hl : is.length ≤ 1000) :
    mComp (miA (mVar 4)) (gN 5) (mOr (mNot (mTru (mBi fIsi (mConsT (mVar 5) (mConsT (mC (.ty "int")) mNilT))))) (mTru (mBi fIsi (mConsT (mVar 5) (mConsT (mC (.ty "bool")) mNilT))))) (mVar 5) [5] [s0, s1, s2, s3, some (.loc k), s5] G = .ok (.tmp []) G := by
  have hc : compF [(k, iW is)] (gN 5) (mOr (mNot (mTru (mBi fIsi (mConsT (mVar 5) (mConsT (mC (.ty "int")) mNilT))))) (mTru (mBi fIsi (mConsT (mVar 5) (mConsT (mC (.ty "bool")) mNilT))))) (mVar 5) [s0, s1, s2, s3, some (.loc k), none] (iW is) G = .ok (((iW is).filter fun _ => false).map id) G := by
    refine compF_filter (fun _ => false) id (still_of h) fun w hw => ⟨_, rfl, ?_, fun z => Bool.noConfusion z⟩
    obtain ⟨i, _, rfl⟩ := List.mem_map.mp hw
    simp
  rw [show (iW is).filter (fun _ => false) = [] from by simp, List.map_nil] at hc
  have hit := iterA_at h
  have hl2 : (iW is).length ≤ 16777216 := by rw [List.length_map]; omega
  generalize iW is = ws at *
  simp [mComp_at, miA_at, hit, wipeS, hl2, hc]
theorem ne_nil (G : GH) : fNe (.tmp []) (.tmp []) G = .ok (.val (.bl false)) G := by
  exact (fNe_data (toDT_tmpI G []) (toDT_tmpI G [])).trans rfl
theorem set_get {G : GH} {m j : Nat} {o : GO} (h : m < G.length) : (G.set m o)[j]? = if j = m then some o else G[j]? := by
  rw [List.getElem?_set]
  by_cases e : m = j
  · subst e; simp [h]
  · have e2 : ¬ j = m := fun z => e z.symm
    simp [e, e2]
theorem take_succ_mem {α : Type} [DecidableEq α] {l : List α} {i : Nat} {a : α} (h : l[i]? = some a) (j : α) : j ∈ l.take (i + 1) ↔ j ∈ l.take i ∨ j = a := by
  rw [List.take_add_one, h]
  simp
theorem nodup_take {l : List Nat} {i a : Nat} (nd : l.Nodup) (h : l[i]? = some a) : a ∉ l.take i := fun hm => by
  obtain ⟨j, hj⟩ := List.getElem?_of_mem hm
  rw [List.getElem?_take] at hj
  split at hj
  · rename_i hji
    have h1 := List.getElem?_eq_some_iff.mp hj
    have h2 := List.getElem?_eq_some_iff.mp h
    exact absurd (h1.2.trans h2.2.symm) (List.pairwise_iff_getElem.mp nd j i h1.1 h2.1 hji)
  · cases hj
theorem nodup_drop {l : List Nat} {i a : Nat} (nd : l.Nodup) (h : l[i]? = some a) (j : Nat) : j ∈ l.drop (i + 1) ↔ j ∈ l.drop i ∧ j ≠ a := by
  have hl := (List.getElem?_eq_some_iff.mp h).1
  have e := (List.getElem?_eq_some_iff.mp h).2
  rw [List.drop_eq_getElem_cons hl, e]
  have nd2 : (l.drop i).Nodup := List.Nodup.sublist (List.drop_sublist i l) nd
  rw [List.drop_eq_getElem_cons hl, e, List.nodup_cons] at nd2
  constructor
  · intro hm
    exact ⟨List.mem_cons_of_mem _ hm, fun z => nd2.1 (z ▸ hm)⟩
  · rintro ⟨hm, hne⟩
    rcases List.mem_cons.mp hm with z | z
    · exact absurd z hne
    · exact z
theorem is_like_eq {G : GH} {n m : Nat} {ms ks : List Nat} {pic : List (List Int)} (hF : RowsAt G n ms (pic.map iW)) (hD : RowsAt G m ks (pic.map iW)) (nd : ms.Nodup) (h1 : n ∉ ms) (h2 : m ∉ ms) (h3 : ∀ k ∈ ks, k ∉ ms)
    (hp : pic.length ≤ 1000) (hr : ∀ r ∈ pic, r.length ≤ 1000) : m_law_is_like [.loc n, .loc m] G = .ok (.bl true) G := by
  refine mDef_ok [some (.loc n), some (.loc m), none, none, none, none] ?_
  unfold b_law_is_like
  have hlm : ms.length = pic.length := by rw [hF.len, List.length_map]
  have hlk : ks.length = pic.length := by rw [hD.len, List.length_map]
  have hlist := isi_lst_list hF.top
  have hl1 : fLen [.val (.loc n)] G = .ok (.val (.int pic.length)) G := by rw [fLen_loc hF.top, List.length_map, hlm]
  have hl2 : fLen [.val (.loc m)] G = .ok (.val (.int pic.length)) G := by rw [fLen_loc hD.top, List.length_map, hlk]
  rw [seq_no (G1 := G) (by simp [hlist, hl1, hl2])]
  -- the first walk
  have hz : miB iterZ (mConsT (mVar 0) (mConsT (mVar 1) mNilT)) [some (.loc n), some (.loc m), none, none, none, none] G = .ok (zipW (ms.map W.loc) (ks.map W.loc), [(n, ms.map W.loc), (m, ks.map W.loc)]) G := by
    have := iterZ_loc hF.top hD.top
    generalize zipW (ms.map W.loc) (ks.map W.loc) = z at *
    simp [miB_at, this]
  obtain ⟨s3, s4, s5, hw1⟩ : ∃ s3 s4 s5, sFor (miB iterZ (mConsT (mVar 0) (mConsT (mVar 1) mNilT))) (gT (gC (gN 4) (gC (gN 3) gE)))
      (sSeq (sIf (mOr (mNot (mTru (mBi fIsi (mConsT (mVar 4) (mConsT (mC (.ty "list")) mNilT))))) (mB (mBin fNe (mVar 4) (mVar 3)))) (sRet (mC (.bl false))) sNext) (sIf (mB (mBin fNe (mComp (miA (mVar 4)) (gN 5) (mOr (mNot (mTru (mBi fIsi (mConsT (mVar 5) (mConsT (mC (.ty "int")) mNilT))))) (mTru (mBi fIsi (mConsT (mVar 5) (mConsT (mC (.ty "bool")) mNilT))))) (mVar 5) [5]) (mLst mNil))) (sRet (mC (.bl false))) sNext))
      [some (.loc n), some (.loc m), none, none, none, none] G = .nx [some (.loc n), some (.loc m), none, s3, s4, s5] G := by
    rw [sFor_at, hz, R.toS_ok]
    refine forL_run (I := fun _ τ G' => G' = G ∧ ∃ s3 s4 s5, τ = [some (.loc n), some (.loc m), none, s3, s4, s5]) (E := fun r => ∃ s3 s4 s5, r = .nx [some (.loc n), some (.loc m), none, s3, s4, s5] G) (τ := [some (.loc n), some (.loc m), none, none, none, none]) (G := G) ⟨rfl, _, _, _, rfl⟩ ?_ ?_
    · rintro i w τ G' hw ⟨rfl, s3, s4, s5, rfl⟩
      obtain ⟨a, b, ea, eb, rfl⟩ := zip_at hw
      refine ⟨still_two hF.top hD.top, _, rfl, ?_⟩
      obtain ⟨r, er, ga⟩ := paired_right hF.row ea
      obtain ⟨r', er', gb⟩ := paired_right hD.row eb
      rw [er] at er'
      cases er'
      obtain ⟨is, his, rfl⟩ := List.mem_map.mp (List.mem_of_getElem? er)
      have e1 := isi_lst_list ga
      have e2 := ne_ints ga gb
      have e3 := ints_whole is (some (.loc n)) (some (.loc m)) none (some (.loc b)) none s5 ga (hr is his)
      rw [decide_eq_true rfl] at e2
      show Turn _ _ (sSeq _ _ [some (.loc n), some (.loc m), none, some (.loc b), some (.loc a), s5] G')
      rw [seq_no (G1 := G') (by simp [e1, e2])]
      rw [if_no (G1 := G') (by
        rw [mB_at, mBin_at, e3]
        simp [ne_nil])]
      exact ⟨rfl, _, _, _, rfl⟩
    · rintro τ G' ⟨rfl, s3, s4, s5, rfl⟩
      exact ⟨still_two hF.top hD.top, _, _, _, rfl⟩
  rw [seq_nx hw1]
  -- a cell more
  have hitF := iterA_at hF.top
  obtain ⟨s4', G2, hB, hw2⟩ : ∃ s4' G2, Bumped (.int 0) G ms G2 ∧ sFor (miA (mVar 0)) (gN 4) (sDrop (mMtF isLst fApp (mVar 4) (mCons (mC (.int 0)) mNil))) [some (.loc n), some (.loc m), none, s3, s4, s5] G = .nx [some (.loc n), some (.loc m), none, s3, s4', s5] G2 := by
    have hmi : miA (mVar 0) [some (.loc n), some (.loc m), none, s3, s4, s5] G = .ok (ms.map W.loc, [(n, ms.map W.loc)]) G := by
      generalize ms.map W.loc = ws at *
      simp [miA_at, hitF]
    rw [sFor_at, hmi, R.toS_ok]
    refine forL_run (I := fun i τ G' => Bumped (.int 0) G (ms.take i) G' ∧ ∃ s4, τ = [some (.loc n), some (.loc m), none, s3, s4, s5]) (E := fun r => ∃ s4 G2, Bumped (.int 0) G ms G2 ∧ r = .nx [some (.loc n), some (.loc m), none, s3, s4, s5] G2) (τ := [some (.loc n), some (.loc m), none, s3, s4, s5]) (G := G) ⟨fun j => by simp, _, rfl⟩ ?_ ?_
    · rintro i w τ G' hw ⟨hB, s4, rfl⟩
      rw [List.getElem?_map] at hw
      cases ea : ms[i]? with
      | none => rw [ea] at hw; cases hw
      | some a =>
        rw [ea] at hw
        cases hw
        obtain ⟨r, er, ga⟩ := paired_right hF.row ea
        obtain ⟨is, his, rfl⟩ := List.mem_map.mp (List.mem_of_getElem? er)
        have hn : G'[n]? = some (.lst (ms.map W.loc)) := by
          rw [hB n, if_neg fun z => h1 (List.mem_of_mem_take z)]
          exact hF.top
        have ga' : G'[a]? = some (.lst (iW is)) := by
          rw [hB a, if_neg (nodup_take nd ea)]
          exact ga
        have hla := (List.getElem?_eq_some_iff.mp ga').1
        have e1 := isLst_ok ga'
        have e2 := fApp_ok (w := .int 0) ga' (by rw [List.length_map]; have := hr is his; omega)
        refine ⟨still_of hn, _, rfl, ?_⟩
        show Turn _ _ (sDrop _ [some (.loc n), some (.loc m), none, s3, some (.loc a), s5] G')
        generalize iW is = ws at *
        rw [show (sDrop (mMtF isLst fApp (mVar 4) (mCons (mC (.int 0)) mNil)) [some (.loc n), some (.loc m), none, s3, some (.loc a), s5] G') = .nx [some (.loc n), some (.loc m), none, s3, some (.loc a), s5] (G'.set a (.lst (ws ++ [.int 0]))) by simp [e1, e2]]
        refine ⟨fun j => ?_, _, rfl⟩
        rw [set_get hla, hB j]
        by_cases hja : j = a
        · subst hja
          rw [if_pos rfl, if_pos ((take_succ_mem ea j).mpr (.inr rfl)), ga]; rfl
        · rw [if_neg hja]
          by_cases hjt : j ∈ ms.take i
          · rw [if_pos hjt, if_pos ((take_succ_mem ea j).mpr (.inl hjt))]
          · rw [if_neg hjt, if_neg fun z => ((take_succ_mem ea j).mp z).elim hjt hja]
    · rintro τ G' ⟨hB, s4, rfl⟩
      rw [List.length_map, List.take_length] at hB
      have hn : G'[n]? = some (.lst (ms.map W.loc)) := by
        rw [hB n, if_neg h1]
        exact hF.top
      exact ⟨still_of hn, _, _, hB, rfl⟩
  rw [seq_nx hw2]
  have hn2 : G2[n]? = some (.lst (ms.map W.loc)) := by rw [hB n, if_neg h1]; exact hF.top
  have hm2 : G2[m]? = some (.lst (ks.map W.loc)) := by rw [hB m, if_neg h2]; exact hD.top
  have hitF2 := iterA_at hn2
  have hitD2 := iterA_at hm2
  have hbound : (ms.map W.loc).length ≤ 16777216 := by rw [List.length_map]; omega
  have hbound2 : (ks.map W.loc).length ≤ 16777216 := by rw [List.length_map]; omega
  have mem_ix : ∀ {i a : Nat}, ms[i]? = some a → a ∈ ms := fun h => List.mem_of_getElem? h
  have c1 : compF [(n, ms.map W.loc)] (gN 4) mYes (mBi fLen (mConsT (mVar 4) mNilT)) [some (.loc n), some (.loc m), none, s3, none, s5] (ms.map W.loc) G2 = .ok (iW (pic.map fun r => (r.length : Int) + 1)) G2 := by
    have := compF_paired (src := [(n, ms.map W.loc)]) (g := gN 4) (c := mYes) (e := mBi fLen (mConsT (mVar 4) mNilT)) (τ := [some (.loc n), some (.loc m), none, s3, none, s5]) (G := G2) (ws := ms.map W.loc) (ys := pic) (fun r => W.int ((r.length : Int) + 1)) (still_of hn2) (paired_map (paired_of hlm fun i a r ea er => ⟨_, rfl, rfl, by
      obtain ⟨u, eu, ga⟩ := paired_right hF.row ea
      rw [List.getElem?_map, er] at eu
      cases eu
      have ga2 : G2[a]? = some (.lst (iW r ++ [.int 0])) := by rw [hB a, if_pos (mem_ix ea), ga]; rfl
      have := fLen_loc ga2
      rw [List.length_append, List.length_map] at this
      simp [this]⟩))
    rw [this]
    simp
  have c2 : compF [(m, ks.map W.loc)] (gN 4) mYes (mBin fAdd (mBi fLen (mConsT (mVar 4) mNilT)) (mC (.int 1))) [some (.loc n), some (.loc m), none, s3, none, s5] (ks.map W.loc) G2 = .ok (iW (pic.map fun r => (r.length : Int) + 1)) G2 := by
    have := compF_paired (src := [(m, ks.map W.loc)]) (g := gN 4) (c := mYes) (e := mBin fAdd (mBi fLen (mConsT (mVar 4) mNilT)) (mC (.int 1))) (τ := [some (.loc n), some (.loc m), none, s3, none, s5]) (G := G2) (ws := ks.map W.loc) (ys := pic) (fun r => W.int ((r.length : Int) + 1)) (still_of hm2) (paired_map (paired_of hlk fun i a r ea er => ⟨_, rfl, rfl, by
      obtain ⟨u, eu, ga⟩ := paired_right hD.row ea
      rw [List.getElem?_map, er] at eu
      cases eu
      have ga2 : G2[a]? = some (.lst (iW r)) := by rw [hB a, if_neg (h3 a (List.mem_of_getElem? ea))]; exact ga
      have := fLen_loc ga2
      rw [List.length_map] at this
      simp [this]⟩))
    rw [this]
    simp
  have c3 : fEq (.tmp (iW (pic.map fun r => (r.length : Int) + 1))) (.tmp (iW (pic.map fun r => (r.length : Int) + 1))) G2 = .ok (.val (.bl true)) G2 := by
    rw [fEq_data (toDT_tmpI _ _) (toDT_tmpI _ _), eqv_ints]
    simp
  rw [seq_nx (τ1 := [some (.loc n), some (.loc m), some (.bl true), s3, s4', s5]) (G1 := G2) (by
    generalize iW (pic.map fun r => (r.length : Int) + 1) = L at *
    generalize ms.map W.loc = ws at *
    generalize ks.map W.loc = us at *
    simp [mComp_at, miA_at, hitF2, hitD2, wipeS, hbound, hbound2, c1, c2, c3])]
  -- and gone again
  obtain ⟨s4'', hw3⟩ : ∃ s4'', sFor (miA (mVar 0)) (gN 4) (sDrop (mMt isLst fPop (mVar 4) mNilT)) [some (.loc n), some (.loc m), some (.bl true), s3, s4', s5] G2 = .nx [some (.loc n), some (.loc m), some (.bl true), s3, s4'', s5] G := by
    have hmi : miA (mVar 0) [some (.loc n), some (.loc m), some (.bl true), s3, s4', s5] G2 = .ok (ms.map W.loc, [(n, ms.map W.loc)]) G2 := by
      generalize ms.map W.loc = ws at *
      simp [miA_at, hitF2]
    rw [sFor_at, hmi, R.toS_ok]
    refine forL_run (I := fun i τ G' => Bumped (.int 0) G (ms.drop i) G' ∧ ∃ s4, τ = [some (.loc n), some (.loc m), some (.bl true), s3, s4, s5]) (E := fun r => ∃ s4, r = .nx [some (.loc n), some (.loc m), some (.bl true), s3, s4, s5] G) (τ := [some (.loc n), some (.loc m), some (.bl true), s3, s4', s5]) (G := G2) ⟨by rw [List.drop_zero]; exact hB, _, rfl⟩ ?_ ?_
    · rintro i w τ G' hw ⟨hB, s4, rfl⟩
      rw [List.getElem?_map] at hw
      cases ea : ms[i]? with
      | none => rw [ea] at hw; cases hw
      | some a =>
        rw [ea] at hw
        cases hw
        obtain ⟨r, er, ga⟩ := paired_right hF.row ea
        have hn : G'[n]? = some (.lst (ms.map W.loc)) := by
          rw [hB n, if_neg fun z => h1 (List.mem_of_mem_drop z)]
          exact hF.top
        have hmd : a ∈ ms.drop i := by
          have hl := (List.getElem?_eq_some_iff.mp ea).1
          rw [List.drop_eq_getElem_cons hl, (List.getElem?_eq_some_iff.mp ea).2]
          exact List.mem_cons_self
        have ga' : G'[a]? = some (.lst (r ++ [.int 0])) := by rw [hB a, if_pos hmd, ga]; rfl
        have hla := (List.getElem?_eq_some_iff.mp ga').1
        have e1 := isLst_ok ga'
        have e2 := fPop_ok ga'
        refine ⟨still_of hn, _, rfl, ?_⟩
        show Turn _ _ (sDrop _ [some (.loc n), some (.loc m), some (.bl true), s3, some (.loc a), s5] G')
        rw [show (sDrop (mMt isLst fPop (mVar 4) mNilT) [some (.loc n), some (.loc m), some (.bl true), s3, some (.loc a), s5] G') = .nx [some (.loc n), some (.loc m), some (.bl true), s3, some (.loc a), s5] (G'.set a (.lst r)) by simp [e1, e2]]
        refine ⟨fun j => ?_, _, rfl⟩
        rw [set_get hla, hB j]
        by_cases hja : j = a
        · subst hja
          rw [if_pos rfl, if_neg fun z => ((nodup_drop nd ea j).mp z).2 rfl, ga]
        · rw [if_neg hja]
          by_cases hjt : j ∈ ms.drop i
          · rw [if_pos hjt, if_pos ((nodup_drop nd ea j).mpr ⟨hjt, hja⟩)]
          · rw [if_neg hjt, if_neg fun z => hjt ((nodup_drop nd ea j).mp z).1]
    · rintro τ G' ⟨hB, s4, rfl⟩
      rw [List.length_map, List.drop_length] at hB
      have hG : G' = G := by
        apply List.ext_getElem?
        intro j
        rw [hB j, if_neg List.not_mem_nil]
      subst hG
      exact ⟨still_of hF.top, _, rfl⟩
  rw [seq_nx hw3]
  simp
end Lk09
set_option Elab.async false
set_option linter.all false
set_option maxRecDepth 100000
set_option maxHeartbeats 4000000
namespace Lk09
open PySem PySem.Spec PyProof.Rows L2 Sy
theorem fIx_tup {G : GH} {ws : List W} {k : Nat} {w : W} (hk : ws[k]? = some w) : fIx (.val (.tup ws)) (.val (.int k)) G = .ok (.val w) G := by
  unfold fIx
  simp [atI_nat hk]
@[simp] theorem fIx_tup0 {G : GH} {ws : List W} {w : W} : fIx (.val (.tup (w :: ws))) (.val (.int 0)) G = .ok (.val w) G := fIx_tup (k := 0) rfl
@[simp] theorem fIx_tup1 {G : GH} {ws : List W} {u w : W} : fIx (.val (.tup (u :: w :: ws))) (.val (.int 1)) G = .ok (.val w) G := fIx_tup (k := 1) rfl
@[simp] theorem fLen_tup (ws : List W) (G : GH) : fLen [.val (.tup ws)] G = .ok (.val (.int ws.length)) G := (rfl)
theorem appOk {n : Nat} {us : List W} {w : W} {G : GH} (h : G[n]? = some (.lst us)) (hl : us.length ≤ 1000000) : fApp (.val (.loc n)) [w] G = .ok (.val .non) (G.set n (.lst (us ++ [w]))) := fApp_ok h (by omega)
theorem fTuple_loc {G : GH} {n : Nat} {ws : List W} (h : G[n]? = some (.lst ws)) : fTuple [.val (.loc n)] G = .ok (.val (.tup ws)) G := by
  unfold fTuple
  simp [h]
theorem sPut_ok {mo mi m : M T} {τ : Sl} {G G1 G2 G3 : GH} {w : W} {n k : Nat} {us : List W} (hm : (m τ G).bind force = .ok w G1) (ho : mo τ G1 = .ok (.val (.loc n)) G2) (hi : mi τ G2 = .ok (.val (.int k)) G3) (hu : G3[n]? = some (.lst us)) (hk : k < us.length) :
    sPut mo mi m τ G = .nx τ (G3.set n (.lst (us.set k w))) := by
  unfold sPut
  have e : ixN us.length (k : Int) = some k := by
    unfold ixN
    rw [if_pos (by omega), if_pos (by omega)]; rfl
  have hm' : mF m τ G = .ok w G1 := hm
  rw [hm']
  simp only [R.toS_ok, ho, hi, lstAt_loc, hu, Option.bind_some, wr_lst, Option.map_some, e]
/-! pictures that were laid anew -/
theorem laidR_len (G : GH) (rows : List (List W)) : (laidR G rows).length = G.length + rows.length + 1 := by
  unfold laidR
  simp
  omega
theorem places_mem {n k m : Nat} (h : m ∈ places n k) : n ≤ m ∧ m < n + k := by
  obtain ⟨i, hi, rfl⟩ := List.mem_map.mp h
  have := List.mem_range.mp hi
  omega
def PicAt (G : GH) (n : Nat) (pic : List (List Int)) : Prop := ∃ ms, RowsAt G n ms (pic.map iW)
theorem PicAt.keep {G G' : GH} {n : Nat} {pic : List (List Int)} (h : PicAt G n pic) (k : Keeps G G') : PicAt G' n pic := by
  obtain ⟨ms, h⟩ := h
  exact ⟨ms, h.keep k⟩
theorem PicAt.eq {G : GH} {n m : Nat} {p q : List (List Int)} (h : PicAt G n p) (h2 : PicAt G m q) : fEq (.val (.loc n)) (.val (.loc m)) G = .ok (.val (.bl (decide (p = q)))) G := by
  obtain ⟨ms, h⟩ := h
  obtain ⟨ks, h2⟩ := h2
  exact h.eq h2
theorem PicAt.ne {G : GH} {n m : Nat} {p q : List (List Int)} (h : PicAt G n p) (h2 : PicAt G m q) : fNe (.val (.loc n)) (.val (.loc m)) G = .ok (.val (.bl (!decide (p = q)))) G := by
  obtain ⟨ms, h⟩ := h
  obtain ⟨ks, h2⟩ := h2
  exact h.ne h2
/-- a picture that was laid behind G -/
structure NewP (G G' : GH) (n : Nat) (pic : List (List Int)) : Prop where
  keep : Keeps G G'
  top : G.length ≤ n
  at_ : ∃ ms, RowsAt G' n ms (pic.map iW) ∧ ms.Nodup ∧ n ∉ ms ∧ ∀ m ∈ ms, G.length ≤ m
theorem NewP.pic {G G' : GH} {n : Nat} {pic : List (List Int)} (h : NewP G G' n pic) : PicAt G' n pic := by
  obtain ⟨ms, h, _⟩ := h.at_
  exact ⟨ms, h⟩
theorem newP_laid (G : GH) (pic : List (List Int)) : NewP G (laidR G (pic.map iW)) (G.length + pic.length) pic := by
  refine ⟨Keeps.app _ _, by omega, places G.length pic.length, ?_, places_nodup _ _, fun h => ?_, fun m h => (places_mem h).1⟩
  · have := laidR_rows G (pic.map iW)
    rw [List.length_map] at this
    exact this
  · have := places_mem h
    omega
theorem NewP.later {G G1 G2 : GH} {n : Nat} {pic : List (List Int)} (k : Keeps G G1) (h : NewP G1 G2 n pic) : NewP G G2 n pic := by
  obtain ⟨ms, a, b, c, d⟩ := h.at_
  have := k.len
  have := h.top
  exact ⟨k.trans h.keep, by omega, ms, a, b, c, fun m hm => by have := d m hm; omega⟩
theorem NewP.grow {G G1 G2 : GH} {n : Nat} {pic : List (List Int)} (h : NewP G G1 n pic) (k : Keeps G1 G2) : NewP G G2 n pic := by
  obtain ⟨ms, a, b, c, d⟩ := h.at_
  exact ⟨h.keep.trans k, h.top, ms, a.keep k, b, c, d⟩
theorem PicAt.old {G : GH} {n : Nat} {ms : List Nat} {rows : List (List W)} (h : RowsAt G n ms rows) : n < G.length ∧ ∀ m ∈ ms, m < G.length := by
  refine ⟨(List.getElem?_eq_some_iff.mp h.top).1, fun m hm => ?_⟩
  obtain ⟨r, _, e⟩ := paired_mem h.row m hm
  exact (List.getElem?_eq_some_iff.mp e).1
theorem like_new {G G' : GH} {n m : Nat} {pic : List (List Int)} {wide : Nat} (g : Good pic wide) (h : NewP G G' n pic) (h2 : PicAt G m pic) : m_law_is_like [.loc n, .loc m] G' = .ok (.bl true) G' := by
  obtain ⟨ms, a, b, c, d⟩ := h.at_
  obtain ⟨ks, r⟩ := h2
  obtain ⟨o1, o2⟩ := PicAt.old r
  have := g.h1
  have := g.w1
  refine is_like_eq a (r.keep h.keep) b c (fun z => ?_) (fun k hk z => ?_) (by omega) fun r hr => by rw [g.row r hr]; omega
  · have := d m z; omega
  · have := d k z
    have := o2 k hk
    omega
theorem copied_new {G : GH} {n : Nat} {pic : List (List Int)} (h : PicAt G n pic) (hl : pic.length ≤ 1000) : m_law_copied [.loc n] G = .ok (.loc (G.length + pic.length)) (laidR G (pic.map iW)) := by
  obtain ⟨ms, h⟩ := h
  have := copied_eq h (by rw [List.length_map]; omega)
  rw [List.length_map] at this
  exact this
/-! each row of what was told is changed -/
theorem marked_new {G G' : GH} {n : Nat} {pic : List (List Int)} {wide : Nat} (g : Good pic wide) (h : NewP G G' n pic) : ∃ G2, Keeps G G2 ∧ m_law_marked [.loc n] G' = .ok (.bl true) G2 := by
  obtain ⟨ms, a, b, c, d⟩ := h.at_
  have hr : ∀ m ∈ ms, ∃ us, G'[m]? = some (.lst us) ∧ 0 < us.length := fun m hm => by
    obtain ⟨r, hr, e⟩ := paired_mem a.row m hm
    obtain ⟨is, his, rfl⟩ := List.mem_map.mp hr
    exact ⟨_, e, by rw [List.length_map, g.row is his]; exact g.w0⟩
  suffices hh : ∃ G2, Keeps G G2 ∧ b_law_marked [some (.loc n), none] G' = .rt (.bl true) G2 by
    obtain ⟨G2, k, e⟩ := hh
    exact ⟨G2, k, mDef_ok _ e⟩
  unfold b_law_marked
  have hit := iterA_at a.top
  obtain ⟨s1, G2, k2, hw⟩ : ∃ s1 G2, Keeps G G2 ∧ sFor (miA (mVar 0)) (gN 1) (sPut (mVar 1) (mC (.int 0)) (mC (.int 99))) [some (.loc n), none] G' = .nx [some (.loc n), s1] G2 := by
    have hmi : miA (mVar 0) [some (.loc n), none] G' = .ok (ms.map W.loc, [(n, ms.map W.loc)]) G' := by
      generalize ms.map W.loc = ws at *
      simp [miA_at, hit]
    rw [sFor_at, hmi, R.toS_ok]
    refine forL_run (I := fun _ τ G2 => Keeps G G2 ∧ G2[n]? = some (.lst (ms.map W.loc)) ∧ (∀ m ∈ ms, ∃ us, G2[m]? = some (.lst us) ∧ 0 < us.length) ∧ ∃ s1, τ = [some (.loc n), s1]) (E := fun r => ∃ s1 G2, Keeps G G2 ∧ r = .nx [some (.loc n), s1] G2) (τ := [some (.loc n), none]) (G := G') ⟨h.keep, a.top, hr, _, rfl⟩ ?_ ?_
    · rintro i w τ G2 hw ⟨k2, t2, r2, s1, rfl⟩
      obtain ⟨m, hm, rfl⟩ := List.mem_map.mp (List.mem_of_getElem? hw)
      obtain ⟨us, e1, e2⟩ := r2 m hm
      refine ⟨still_of t2, _, rfl, ?_⟩
      show Turn _ _ (sPut _ _ _ [some (.loc n), some (.loc m)] G2)
      rw [sPut_ok (mo := mVar 1) (mi := mC (.int 0)) (m := mC (.int 99)) (τ := [some (.loc n), some (.loc m)]) (G := G2) (G1 := G2) (G2 := G2) (G3 := G2) (w := .int 99) (n := m) (k := 0) (us := us) rfl rfl rfl e1 e2]
      have hml := (List.getElem?_eq_some_iff.mp e1).1
      refine ⟨k2.set (d m hm) _, ?_, fun j hj => ?_, _, rfl⟩
      · rw [set_get hml, if_neg (fun z => c (by rw [z]; exact hm))]
        exact t2
      · rw [set_get hml]
        by_cases hjm : j = m
        · rw [if_pos hjm]
          exact ⟨_, rfl, by rw [List.length_set]; exact e2⟩
        · rw [if_neg hjm]
          exact r2 j hj
    · rintro τ G2 ⟨k2, t2, _, s1, rfl⟩
      exact ⟨still_of t2, _, _, k2, rfl⟩
  refine ⟨G2, k2, ?_⟩
  rw [seq_nx hw]
  simp
/-! what is a picture, of anything -/
def lstOf (G : GH) : W → Option (List W)
  | .loc n => (match G[n]? with
    | some (.lst ws) => some ws
    | _ => none)
  | _ => none
def noFrl : W → Bool
  | .frl _ => false
  | _ => true
theorem lstOf_loc {G : GH} {n : Nat} {ws : List W} (h : G[n]? = some (.lst ws)) : lstOf G (.loc n) = some ws := by
  unfold lstOf
  dsimp only
  rw [h]
theorem lstOf_some {G : GH} {w : W} {ws : List W} (h : lstOf G w = some ws) : ∃ n, w = .loc n ∧ G[n]? = some (.lst ws) := by
  unfold lstOf at h
  split at h
  · rename_i n
    split at h
    · rename_i us e
      cases h
      exact ⟨n, rfl, e⟩
    · cases h
  · cases h
theorem lstOf_none {G : GH} {w : W} (hok : okW G w) (hf : noFrl w = true) (h : lstOf G w = none) : ∃ a, tyOf G (.val w) = some a ∧ subTy a "list" = some false := by
  cases w with
  | non => exact ⟨_, rfl, by decide⟩
  | bl b => exact ⟨_, rfl, by decide⟩
  | int i => exact ⟨_, rfl, by decide⟩
  | str x => exact ⟨_, rfl, by decide⟩
  | tup ws => exact ⟨_, rfl, by decide⟩
  | frl ws => cases hf
  | ty n => cases hok
  | cls n => cases hok
  | exn c a => cases hok
  | loc n =>
    unfold lstOf at h
    unfold okW tyOf at hok
    unfold tyOf
    dsimp only at *
    cases e : G[n]? with
    | none => rw [e] at hok; cases hok
    | some o =>
      rw [e] at h hok
      cases o with
      | lst ws => cases h
      | dK kvs => exact ⟨_, rfl, by decide⟩
      | dT kvs => exact ⟨_, rfl, by decide⟩
      | ins c fs => cases hok
      | tb k q => cases hok
theorem okW_lt {G : GH} {n : Nat} (h : okW G (.loc n)) : n < G.length := by
  unfold okW tyOf at h
  dsimp only at h
  cases e : G[n]? with
  | none => rw [e] at h; cases h
  | some o => exact (List.getElem?_eq_some_iff.mp e).1
theorem okW_app {G : GH} {w : W} (xs : GH) (h : okW G w) : okW (G ++ xs) w := by
  cases w with
  | loc n =>
    have hl := okW_lt h
    unfold okW tyOf at h ⊢
    dsimp only at h ⊢
    rw [List.getElem?_append_left hl]
    exact h
  | _ => exact h
theorem lstOf_app {G : GH} {w : W} (xs : GH) (h : okW G w) : lstOf (G ++ xs) w = lstOf G w := by
  cases w with
  | loc n =>
    have hl := okW_lt h
    unfold lstOf
    dsimp only
    rw [List.getElem?_append_left hl]
  | _ => rfl
structure okR (G : GH) (r : W) : Prop where
  ok : okW G r
  nf : noFrl r = true
  cs : ∀ cs, lstOf G r = some cs → cs.length ≤ 100000 ∧ ∀ c ∈ cs, okW G c
structure okP (G : GH) (w : W) : Prop where
  ok : okW G w
  nf : noFrl w = true
  rs : ∀ rs, lstOf G w = some rs → rs.length ≤ 100000 ∧ ∀ r ∈ rs, okR G r
theorem okR.app {G : GH} {r : W} (xs : GH) (h : okR G r) : okR (G ++ xs) r :=
  ⟨okW_app xs h.ok, h.nf, fun cs e => by
    rw [lstOf_app xs h.ok] at e
    exact ⟨(h.cs cs e).1, fun c hc => okW_app xs ((h.cs cs e).2 c hc)⟩⟩
theorem okP.app {G : GH} {w : W} (xs : GH) (h : okP G w) : okP (G ++ xs) w :=
  ⟨okW_app xs h.ok, h.nf, fun rs e => by
    rw [lstOf_app xs h.ok] at e
    exact ⟨(h.rs rs e).1, fun r hr => ((h.rs rs e).2 r hr).app xs⟩⟩
def cellsB (G : GH) (r : W) : Bool := match lstOf G r with
  | some cs => cs.all cellW
  | none => false
def lenOf (G : GH) (r : W) : Nat := match lstOf G r with
  | some cs => cs.length
  | none => 0
def isPicB (G : GH) (w : W) : Bool := match lstOf G w with
  | none => false
  | some rs => (decide (1 ≤ rs.length) && decide (rs.length ≤ 24) && rs.all (cellsB G)) && ((decide (1 ≤ lenOf G (rs.getD 0 .non)) && decide (lenOf G (rs.getD 0 .non) ≤ 24)) && rs.all fun r => decide (lenOf G r = lenOf G (rs.getD 0 .non)))
theorem all_congr {α : Type} {p q : α → Bool} {l : List α} (h : ∀ x ∈ l, p x = q x) : l.all p = l.all q := by
  induction l with
  | nil => rfl
  | cons a l ih => rw [List.all_cons, List.all_cons, h a List.mem_cons_self, ih fun x hx => h x (List.mem_cons_of_mem _ hx)]
theorem isPicB_app {G : GH} {w : W} (xs : GH) (h : okP G w) : isPicB (G ++ xs) w = isPicB G w := by
  unfold isPicB
  rw [lstOf_app xs h.ok]
  cases e : lstOf G w with
  | none => rfl
  | some rs =>
    have hr := (h.rs rs e).2
    have e1 : ∀ r ∈ rs, cellsB (G ++ xs) r = cellsB G r := fun r m => by unfold cellsB; rw [lstOf_app xs (hr r m).ok]
    have e2 : ∀ r ∈ rs, lenOf (G ++ xs) r = lenOf G r := fun r m => by unfold lenOf; rw [lstOf_app xs (hr r m).ok]
    have e3 : lenOf (G ++ xs) (rs.getD 0 .non) = lenOf G (rs.getD 0 .non) := by
      cases rs with
      | nil => rfl
      | cons r rs => exact e2 r List.mem_cons_self
    dsimp only
    rw [e3, all_congr e1, all_congr (p := fun r => decide (lenOf (G ++ xs) r = lenOf G (rs.getD 0 .non))) (q := fun r => decide (lenOf G r = lenOf G (rs.getD 0 .non))) fun r m => by rw [e2 r m]]
theorem cells_any {G : GH} {r : W} (h : okR G r) : m_are_cells [r] G = .ok (.bl (cellsB G r)) G := by
  unfold cellsB
  cases e : lstOf G r with
  | none =>
    obtain ⟨a, h1, h2⟩ := lstOf_none h.ok h.nf e
    exact cells_no_list h1 h2
  | some cs =>
    obtain ⟨n, rfl, hn⟩ := lstOf_some e
    exact are_cells_eq hn (by have := (h.cs cs e).1; omega) (h.cs cs e).2
theorem is_picture_any {G : GH} {w : W} (h : okP G w) : m_is_picture [w] G = .ok (.bl (isPicB G w)) G := by
  unfold isPicB
  cases e : lstOf G w with
  | none =>
    obtain ⟨a, h1, h2⟩ := lstOf_none h.ok h.nf e
    exact no_picture h1 h2
  | some rs =>
    obtain ⟨n, rfl, hn⟩ := lstOf_some e
    obtain ⟨hl, hr⟩ := h.rs rs e
    refine mDef_ok [some (.loc n), none] ?_
    unfold b_is_picture
    have hlist := isi_lst_list hn
    have hlen := fLen_loc hn
    have hit := iterA_at hn
    have hl3 : rs.length ≤ 16777216 := by omega
    dsimp only
    by_cases i1 : 1 ≤ rs.length
    · by_cases i2 : rs.length ≤ 24
      · have j1 : (1 : Int) ≤ rs.length := by omega
        have j2 : (rs.length : Int) ≤ 24 := by omega
        have hc1 : compF [(n, rs)] (gN 1) mYes (mCall m_are_cells [] (mCons (mVar 1) mNil)) [some (.loc n), none] rs G = .ok (rs.map fun r => W.bl (cellsB G r)) G :=
          compF_map (fun r => .bl (cellsB G r)) (still_of hn) fun r hm => ⟨_, rfl, rfl, by simp [cells_any (hr r hm)]⟩
        have hall := fAll_tmp (rs.map (cellsB G)) G
        rw [List.map_map] at hall
        rw [show (rs.map fun r => W.bl (cellsB G r)) = rs.map (W.bl ∘ cellsB G) from rfl] at hc1
        rw [show ((rs.map (cellsB G)).all id) = rs.all (cellsB G) by rw [List.all_map]; rfl] at hall
        cases hA : rs.all (cellsB G) with
        | false =>
          rw [hA] at hall
          generalize rs.map (W.bl ∘ cellsB G) = L at hc1 hall
          rw [seq_yes (G1 := G) (by simp [hlist, hlen, j1, j2, mComp_at, miA_at, hit, wipeS, hl3, hc1, hall])]
          simp
        | true =>
          rw [hA] at hall
          generalize rs.map (W.bl ∘ cellsB G) = L at hc1 hall
          rw [seq_no (G1 := G) (by simp [hlist, hlen, j1, j2, mComp_at, miA_at, hit, wipeS, hl3, hc1, hall])]
          have hlens : ∀ r ∈ rs, fLen [.val r] G = .ok (.val (.int (lenOf G r))) G := fun r hm => by
            have hb := List.all_eq_true.mp hA r hm
            unfold cellsB at hb
            unfold lenOf
            cases e' : lstOf G r with
            | none => rw [e'] at hb; cases hb
            | some cs =>
              obtain ⟨k, rfl, hk⟩ := lstOf_some e'
              exact fLen_loc hk
          have h0 : rs[0]? = some (rs.getD 0 .non) := by
            cases rs with
            | nil => cases i1
            | cons r rs => rfl
          have hm0 : rs.getD 0 .non ∈ rs := List.mem_of_getElem? h0
          have hix := fIx_loc0 hn h0
          have hL0 := hlens _ hm0
          generalize hr0 : rs.getD 0 .non = r0 at *
          have hc2 : compF [(n, rs)] (gN 1) mYes (mBin fEq (mBi fLen (mConsT (mVar 1) mNilT)) (mBi fLen (mConsT (mBin fIx (mVar 0) (mC (.int 0))) mNilT))) [some (.loc n), none] rs G = .ok (rs.map fun r => W.bl (decide (lenOf G r = lenOf G r0))) G := by
            refine compF_map (fun r => .bl (decide (lenOf G r = lenOf G r0))) (still_of hn) fun r hm => ⟨_, rfl, rfl, ?_⟩
            have q1 := hlens r hm
            generalize hla : lenOf G r = la at *
            generalize hlb : lenOf G r0 = lb at *
            have : ((la : Int) = (lb : Int)) = (la = lb) := propext Int.natCast_inj
            simp [q1, hix, hL0, this]
          have hall2 := fAll_tmp (rs.map fun r => decide (lenOf G r = lenOf G r0)) G
          rw [List.map_map] at hall2
          rw [show (rs.map fun r => W.bl (decide (lenOf G r = lenOf G r0))) = rs.map (W.bl ∘ fun r => decide (lenOf G r = lenOf G r0)) from rfl] at hc2
          rw [show ((rs.map fun r => decide (lenOf G r = lenOf G r0)).all id) = rs.all (fun r => decide (lenOf G r = lenOf G r0)) by rw [List.all_map]; rfl] at hall2
          generalize rs.map (W.bl ∘ fun r => decide (lenOf G r = lenOf G r0)) = L2 at hc2 hall2
          generalize (rs.all fun r => decide (lenOf G r = lenOf G r0)) = bb at *
          generalize lenOf G r0 = l0 at *
          by_cases k1 : 1 ≤ l0
          · by_cases k2 : l0 ≤ 24
            · have j3 : (1 : Int) ≤ l0 := by omega
              have j4 : (l0 : Int) ≤ 24 := by omega
              simp [hix, hL0, j3, j4, mComp_at, miA_at, hit, wipeS, hl3, hc2, hall2, i1, i2, k1, k2]
            · have j3 : (1 : Int) ≤ l0 := by omega
              have j4 : ¬ (l0 : Int) ≤ 24 := by omega
              simp [hix, hL0, j3, j4, k2]
          · have j3 : ¬ (1 : Int) ≤ l0 := by omega
            simp [hix, hL0, j3, k1]
      · have j1 : (1 : Int) ≤ rs.length := by omega
        have j2 : ¬ (rs.length : Int) ≤ 24 := by omega
        rw [seq_yes (G1 := G) (by simp [hlist, hlen, j1, j2])]
        simp [i2]
    · have j1 : ¬ (1 : Int) ≤ rs.length := by omega
      rw [seq_yes (G1 := G) (by simp [hlist, hlen, j1])]
      simp [i1]
/-- it is none, now and later -/
def BadP (G : GH) (w : W) : Prop := ∀ xs, m_is_picture [w] (G ++ xs) = .ok (.bl false) (G ++ xs)
theorem BadP.mono {G : GH} {w : W} (h : BadP G w) (xs : GH) : BadP (G ++ xs) w := fun ys => by
  rw [List.append_assoc]
  exact h _
theorem badP_of {G : GH} {w : W} (h : okP G w) (hb : isPicB G w = false) : BadP G w := fun xs => by
  have := is_picture_any (h.app xs)
  rw [isPicB_app xs h, hb] at this
  exact this
theorem need_picture_bad {G : GH} {w : W} (h : m_is_picture [w] G = .ok (.bl false) G) : m_need_picture [w] G = .ex 1 [] G := by
  refine mDef_ex [some w] ?_ (τ1 := [some w])
  unfold b_need_picture
  rw [if_yes (G1 := G) (by simp [h])]
  rfl
theorem okW_list {G : GH} {n : Nat} {ws : List W} (h : G[n]? = some (.lst ws)) : okW G (.loc n) := by
  unfold okW
  rw [tyOf_lst h]
  rfl
theorem okR_ints {G : GH} {m : Nat} {is : List Int} (h : G[m]? = some (.lst (iW is))) (hl : is.length ≤ 1000) : okR G (.loc m) :=
  ⟨okW_list h, rfl, fun cs e => by
    rw [lstOf_loc h] at e
    cases e
    exact ⟨by rw [List.length_map]; omega, fun c hc => by obtain ⟨i, _, rfl⟩ := List.mem_map.mp hc; rfl⟩⟩
theorem okR_flat {G : GH} {r : W} (h1 : okW G r) (h2 : noFrl r = true) (h3 : lstOf G r = none) : okR G r := ⟨h1, h2, fun cs e => by rw [h3] at e; cases e⟩
theorem okP_flat {G : GH} {r : W} (h1 : okW G r) (h2 : noFrl r = true) (h3 : lstOf G r = none) : okP G r := ⟨h1, h2, fun cs e => by rw [h3] at e; cases e⟩
end Lk09
set_option Elab.async false
set_option linter.all false
set_option maxRecDepth 100000
set_option maxHeartbeats 4000000
namespace Lk09
open PySem PySem.Spec PyProof.Rows L2 Sy
/-! grids -/
def grid (wide high : Nat) (f : Nat → Nat → Int) : List (List Int) := (List.range high).map fun y => (List.range wide).map fun x => f y x
def cellP (pic : List (List Int)) (y x : Nat) : Int := (pic.getD y []).getD x 0
theorem grid_len (wide high : Nat) (f : Nat → Nat → Int) : (grid wide high f).length = high := by simp [grid]
theorem grid_row {wide high : Nat} {f : Nat → Nat → Int} {y : Nat} (h : y < high) : (grid wide high f)[y]? = some ((List.range wide).map fun x => f y x) := by
  unfold grid
  rw [List.getElem?_map, List.getElem?_range h]
  rfl
theorem grid_cong {wide high : Nat} {f g : Nat → Nat → Int} (h : ∀ y x, y < high → x < wide → f y x = g y x) : grid wide high f = grid wide high g := by
  unfold grid
  refine List.map_congr_left fun y hy => List.map_congr_left fun x hx => h y x (List.mem_range.mp hy) (List.mem_range.mp hx)
theorem row_put {wide : Nat} (f : Nat → Int) (x : Nat) (c : Int) : ((List.range wide).map f).set x c = (List.range wide).map fun x' => if x' = x then c else f x' := by
  apply List.ext_getElem?
  intro i
  rw [List.getElem?_set, List.length_map, List.length_range]
  by_cases hi : i < wide
  · rw [List.getElem?_map, List.getElem?_map, List.getElem?_range hi]
    by_cases hx : x = i
    · subst hx
      simp [hi]
    · have hx2 : ¬ (i = x) := fun e => hx e.symm
      simp [hx, hx2]
  · have h1 : ((List.range wide).map f)[i]? = none := List.getElem?_eq_none (by simp; omega)
    have h2 : ((List.range wide).map fun x' => if x' = x then c else f x')[i]? = none := List.getElem?_eq_none (by simp; omega)
    rw [h1, h2]
    by_cases hx : x = i
    · subst hx
      simp [hi]
    · simp [hx]
theorem grid_put {wide high : Nat} {f : Nat → Nat → Int} {y x : Nat} {c : Int} : (grid wide high f).set y (((List.range wide).map fun x => f y x).set x c) = grid wide high fun y' x' => if y' = y ∧ x' = x then c else f y' x' := by
  rw [row_put]
  apply List.ext_getElem?
  intro i
  rw [List.getElem?_set, grid_len]
  by_cases hi : i < high
  · rw [grid_row hi, grid_row hi]
    by_cases hy : y = i
    · subst hy
      simp [hi]
    · have hy2 : ¬ (i = y) := fun e => hy e.symm
      simp [hy, hy2]
  · have h1 : (grid wide high f)[i]? = none := List.getElem?_eq_none (by rw [grid_len]; omega)
    have h2 : (grid wide high fun y' x' => if y' = y ∧ x' = x then c else f y' x')[i]? = none := List.getElem?_eq_none (by rw [grid_len]; omega)
    rw [h1, h2]
    by_cases hy : y = i
    · subst hy
      simp [hi]
    · simp [hy]
theorem getD_of {α : Type} {l : List α} {i : Nat} {a d : α} (h : l[i]? = some a) : l.getD i d = a := by
  rw [List.getD_eq_getElem?_getD, h]
  rfl
theorem pic_grid {pic : List (List Int)} {wide : Nat} (g : Good pic wide) : pic = grid wide pic.length (cellP pic) := by
  apply List.ext_getElem?
  intro y
  by_cases hy : y < pic.length
  · rw [grid_row hy, List.getElem?_eq_getElem hy]
    congr 1
    have hl := g.row _ (List.getElem_mem hy)
    apply List.ext_getElem?
    intro x
    by_cases hx : x < wide
    · rw [List.getElem?_map, List.getElem?_range hx, List.getElem?_eq_getElem (by omega)]
      have e : cellP pic y x = pic[y][x] := by
        unfold cellP
        rw [getD_of (List.getElem?_eq_getElem hy), getD_of (List.getElem?_eq_getElem (by omega))]
      rw [← e]
      rfl
    · rw [List.getElem?_eq_none (by omega), List.getElem?_eq_none (by simp; omega)]
  · rw [List.getElem?_eq_none (by omega), List.getElem?_eq_none (by rw [grid_len]; omega)]
theorem PicAt.rowAt {G : GH} {n y : Nat} {pic : List (List Int)} {wide : Nat} (h : PicAt G n pic) (g : Good pic wide) (hy : y < pic.length) : ∃ m, (∀ G1, G1 = G → fIx (.val (.loc n)) (.val (.int (y : Nat))) G1 = .ok (.val (.loc m)) G1) ∧ G[m]? = some (.lst (iW pic[y])) := by
  obtain ⟨ms, r⟩ := h
  have e : (pic.map iW)[y]? = some (iW pic[y]) := by rw [List.getElem?_map, List.getElem?_eq_getElem hy]; rfl
  obtain ⟨m, hm, hr⟩ := paired_nth r.row e
  exact ⟨m, fun G1 e1 => by rw [e1]; exact fIx_loc r.top (by rw [List.getElem?_map, hm]; rfl), hr⟩
theorem cell_at_row {pic : List (List Int)} {wide y x : Nat} (g : Good pic wide) (hy : y < pic.length) (hx : x < wide) : (iW pic[y])[x]? = some (.int (cellP pic y x)) := by
  have hl := g.row _ (List.getElem_mem hy)
  unfold cellP
  rw [getD_of (List.getElem?_eq_getElem hy), getD_of (List.getElem?_eq_getElem (by omega)), List.getElem?_map, List.getElem?_eq_getElem (by omega)]
  rfl
/-- a cell is put into a new picture -/
theorem NewP.put {G G1 : GH} {n wide high y x : Nat} {f : Nat → Nat → Int} (h : NewP G G1 n (grid wide high f)) (hy : y < high) (hx : x < wide) (c : Int) :
    ∃ (m : Nat) (ws : List W), fIx (.val (.loc n)) (.val (.int (y : Nat))) G1 = .ok (.val (.loc m)) G1 ∧ G1[m]? = some (.lst ws) ∧ x < ws.length ∧ NewP G (G1.set m (.lst (ws.set x (.int c)))) n (grid wide high fun y' x' => if y' = y ∧ x' = x then c else f y' x') := by
  obtain ⟨ms, r, nd, hn, ht⟩ := h.at_
  have e : ((grid wide high f).map iW)[y]? = some (iW ((List.range wide).map fun x => f y x)) := by rw [List.getElem?_map, grid_row hy]; rfl
  obtain ⟨m, hm, hr⟩ := paired_nth r.row e
  have hmm := List.mem_of_getElem? hm
  refine ⟨m, _, fIx_loc r.top (by rw [List.getElem?_map, hm]; rfl), hr, by simp; exact hx, h.keep.set (ht m hmm) _, h.top, ms, ⟨?_, ?_⟩, nd, hn, ht⟩
  · rw [List.getElem?_set_ne (fun z => hn (by rw [← z]; exact hmm))]
    exact r.top
  · rw [← grid_put]
    refine paired_of (by rw [List.length_map, List.length_set]; have := r.row.length; rwa [List.length_map] at this) fun i k u e1 e2 => ?_
    rw [List.getElem?_map, List.getElem?_set, grid_len] at e2
    by_cases hi : y = i
    · subst hi
      rw [hm] at e1
      cases e1
      rw [if_pos rfl, if_pos hy] at e2
      cases e2
      rw [List.getElem?_set_self (List.getElem?_eq_some_iff.mp hr).1]
      unfold iW
      rw [List.map_set]
    · rw [if_neg hi] at e2
      have hk : k ≠ m := fun z => by
        subst z
        obtain ⟨a1, b1⟩ := List.getElem?_eq_some_iff.mp hm
        obtain ⟨a2, b2⟩ := List.getElem?_eq_some_iff.mp e1
        exact hi ((List.getElem_inj nd).mp (b1.trans b2.symm))
      rw [List.getElem?_set_ne (fun z => hk z.symm)]
      exact paired_get r.row i k u e1 (by rw [List.getElem?_map]; exact e2)
theorem turn_of {N : Sl → GH → Prop} {E : RS → Prop} {r : RS} {τ : Sl} {G : GH} (h : r = .nx τ G) (hn : N τ G) : Sy.Turn N E r := by
  rw [h]
  exact hn
theorem turn_ct_of {N : Sl → GH → Prop} {E : RS → Prop} {r : RS} {τ : Sl} {G : GH} (h : r = .ct τ G) (hn : N τ G) : Sy.Turn N E r := by
  rw [h]
  exact hn
theorem set_at {G : GH} {m : Nat} {o o' : GO} (h : G[m]? = some o) : (G.set m o')[m]? = some o' := by
  rw [List.getElem?_set_self (List.getElem?_eq_some_iff.mp h).1]
theorem enum_at {ws : List W} {i : Nat} {w : W} (h : (enumW ws)[i]? = some w) : ∃ u, ws[i]? = some u ∧ w = .tup [.int (i : Nat), u] := by
  unfold enumW at h
  rw [List.getElem?_map, List.getElem?_zipIdx] at h
  cases e : ws[i]? with
  | none => rw [e] at h; cases h
  | some u =>
    rw [e] at h
    cases h
    exact ⟨u, rfl, by simp⟩
theorem enum_len (ws : List W) : (enumW ws).length = ws.length := by simp [enumW]
theorem iterE_loc {G : GH} {n : Nat} {ws : List W} (h : G[n]? = some (.lst ws)) : iterE [.val (.loc n)] G = .ok (enumW ws, [(n, ws)]) G := by
  unfold iterE srcOf
  simp [h]
end Lk09
set_option Elab.async false
set_option linter.all false
set_option maxRecDepth 100000
set_option maxHeartbeats 4000000
namespace Lk09
open PySem PySem.Spec PyProof.Rows L2 Sy
noncomputable abbrev badE (c : M T) : M T := (mBin fIx (mLst (mCons (mC .non) (mCons (mLst mNil) (mCons (mLst (mCons (mLst (mCons (mC (.int 16)) mNil)) mNil)) (mCons (mLst (mCons (mLst (mCons (mC (.int 1)) mNil)) (mCons (mLst (mCons (mC (.int 1)) (mCons (mC (.int 2)) mNil))) mNil))) (mCons (mC (.str "0")) mNil)))))) (mBin fMod c (mC (.int 5))))
def badG (n : Nat) : GH := [.lst [], .lst [.int 16], .lst [.loc (n + 1)], .lst [.int 1], .lst [.int 1, .int 2], .lst [.loc (n + 3), .loc (n + 4)]]
theorem keeps_badP {G G' : GH} {w : W} (h : okP G w) (hb : isPicB G w = false) (k : Sy.Keeps G G') : m_is_picture [w] G' = .ok (.bl false) G' := by
  have e : G' = G ++ G'.drop G.length := by
    apply List.ext_getElem?
    intro i
    by_cases hi : i < G.length
    · rw [k.old i hi, List.getElem?_append_left hi]
    · rw [List.getElem?_append_right (by omega), List.getElem?_drop]
      congr 1
      omega
  rw [e]
  have := badP_of h hb (G'.drop G.length)
  exact this
theorem bad_pick (z : Int) (τ : Sl) (G : GH) (c : M T) (hc : ∀ G, c τ G = .ok (.val (.int z)) G) : ∃ w, badE c τ G = .ok (.val w) (G ++ badG G.length) ∧ ∀ G', Sy.Keeps (G ++ badG G.length) G' → m_is_picture [w] G' = .ok (.bl false) G' := by
  have hm : ∀ G, fMod (.val (.int z)) (.val (.int 5)) G = .ok (.val (.int (z % 5))) G := fun G => fMod_int (by decide)
  obtain ⟨k, hk0, hk5⟩ := Sy.mod_nat z (show 0 < 5 by decide)
  have hk : z % 5 = (k : Int) := hk0
  have hG : G ++ [.lst []] ++ [.lst [.int 16]] ++ [.lst [.loc (G.length + 1)]] ++ [.lst [.int 1]] ++ [.lst [.int 1, .int 2]] ++ [.lst [.loc (G.length + 3), .loc (G.length + 4)]] = G ++ badG G.length := by simp [badG]
  have g0 : (G ++ badG G.length)[G.length]? = some (.lst []) := by rw [get_top0]; rfl
  have g1 : (G ++ badG G.length)[G.length + 1]? = some (.lst [.int 16]) := by rw [get_topk]; rfl
  have g2 : (G ++ badG G.length)[G.length + 2]? = some (.lst [.loc (G.length + 1)]) := by rw [get_topk]; rfl
  have g3 : (G ++ badG G.length)[G.length + 3]? = some (.lst [.int 1]) := by rw [get_topk]; rfl
  have g4 : (G ++ badG G.length)[G.length + 4]? = some (.lst [.int 1, .int 2]) := by rw [get_topk]; rfl
  have g5 : (G ++ badG G.length)[G.length + 5]? = some (.lst [.loc (G.length + 3), .loc (G.length + 4)]) := by rw [get_topk]; rfl
  have hrun : ∀ w, fIx (.tmp [.non, .loc G.length, .loc (G.length + 2), .loc (G.length + 5), .str "0"]) (.val (.int (z % 5))) (G ++ badG G.length) = .ok (.val w) (G ++ badG G.length) → badE c τ G = .ok (.val w) (G ++ badG G.length) := by
    intro w hw
    rw [hk] at hw
    simp [hc, hm, hk]
    rw [show G ++ [GO.lst [], GO.lst [W.int 16], GO.lst [W.loc (G.length + 1)], GO.lst [W.int 1], GO.lst [W.int 1, W.int 2], GO.lst [W.loc (G.length + 3), W.loc (G.length + 4)]] = G ++ badG G.length from rfl]
    exact hw
  generalize hX : G ++ badG G.length = X at *
  rcases (show k = 0 ∨ k = 1 ∨ k = 2 ∨ k = 3 ∨ k = 4 by omega) with rfl | rfl | rfl | rfl | rfl
  · refine ⟨.non, hrun _ (by rw [hk]; exact fIx_tmp (k := 0) rfl), fun G' k' => no_picture (a := "NoneType") rfl (by decide)⟩
  · refine ⟨.loc G.length, hrun _ (by rw [hk]; exact fIx_tmp (k := 1) rfl), fun G' k' => keeps_badP (G := X) ⟨okW_list g0, rfl, fun rs e => by rw [lstOf_loc g0] at e; cases e; exact ⟨by decide, fun r hr => by cases hr⟩⟩ (by unfold isPicB; rw [lstOf_loc g0]; rfl) k'⟩
  · refine ⟨.loc (G.length + 2), hrun _ (by rw [hk]; exact fIx_tmp (k := 2) rfl), fun G' k' => keeps_badP (G := X) ⟨okW_list g2, rfl, fun rs e => by
      rw [lstOf_loc g2] at e; cases e
      exact ⟨by simp, fun r hr => by rw [List.mem_singleton.mp hr]; exact okR_ints (is := [16]) g1 (by decide)⟩⟩ (by
      unfold isPicB
      rw [lstOf_loc g2]
      simp [cellsB, lstOf_loc g1, amongW]) k'⟩
  · refine ⟨.loc (G.length + 5), hrun _ (by rw [hk]; exact fIx_tmp (k := 3) rfl), fun G' k' => keeps_badP (G := X) ⟨okW_list g5, rfl, fun rs e => by
      rw [lstOf_loc g5] at e; cases e
      exact ⟨by simp, fun r hr => by
        simp only [List.mem_cons, List.not_mem_nil, or_false] at hr
        rcases hr with rfl | rfl
        · exact okR_ints (is := [1]) g3 (by decide)
        · exact okR_ints (is := [1, 2]) g4 (by decide)⟩⟩ (by
      unfold isPicB
      rw [lstOf_loc g5]
      simp [cellsB, lenOf, lstOf_loc g3, lstOf_loc g4, amongW]) k'⟩
  · refine ⟨.str "0", hrun _ (by rw [hk]; exact fIx_tmp (k := 4) rfl), fun G' k' => no_picture (a := "str") rfl (by decide)⟩
theorem marked_at {G' : GH} {n : Nat} {ms : List Nat} {pic : List (List Int)} {wide : Nat} (g : Good pic wide) (a : RowsAt G' n ms (pic.map iW)) (c : n ∉ ms) : ∃ G2, (∀ j, j ∉ ms → G2[j]? = G'[j]?) ∧ G2.length = G'.length ∧ m_law_marked [.loc n] G' = .ok (.bl true) G2 := by
  have hr : ∀ m ∈ ms, ∃ us, G'[m]? = some (.lst us) ∧ 0 < us.length := fun m hm => by
    obtain ⟨r, hr, e⟩ := paired_mem a.row m hm
    obtain ⟨is, his, rfl⟩ := List.mem_map.mp hr
    exact ⟨_, e, by rw [List.length_map, g.row is his]; exact g.w0⟩
  suffices hh : ∃ G2, (∀ j, j ∉ ms → G2[j]? = G'[j]?) ∧ G2.length = G'.length ∧ b_law_marked [some (.loc n), none] G' = .rt (.bl true) G2 by
    obtain ⟨G2, k, l, e⟩ := hh
    exact ⟨G2, k, l, mDef_ok _ e⟩
  unfold b_law_marked
  have hit := iterA_at a.top
  obtain ⟨s1, G2, k2, l2, hw⟩ : ∃ s1 G2, (∀ j, j ∉ ms → G2[j]? = G'[j]?) ∧ G2.length = G'.length ∧ sFor (miA (mVar 0)) (gN 1) (sPut (mVar 1) (mC (.int 0)) (mC (.int 99))) [some (.loc n), none] G' = .nx [some (.loc n), s1] G2 := by
    have hmi : miA (mVar 0) [some (.loc n), none] G' = .ok (ms.map W.loc, [(n, ms.map W.loc)]) G' := by
      generalize ms.map W.loc = ws at *
      simp [miA_at, hit]
    rw [sFor_at, hmi, R.toS_ok]
    refine forL_run (I := fun _ τ G2 => (∀ j, j ∉ ms → G2[j]? = G'[j]?) ∧ G2.length = G'.length ∧ (∀ m ∈ ms, ∃ us, G2[m]? = some (.lst us) ∧ 0 < us.length) ∧ ∃ s1, τ = [some (.loc n), s1]) (E := fun r => ∃ s1 G2, (∀ j, j ∉ ms → G2[j]? = G'[j]?) ∧ G2.length = G'.length ∧ r = .nx [some (.loc n), s1] G2) (τ := [some (.loc n), none]) ⟨fun _ _ => rfl, rfl, hr, none, rfl⟩ ?_ ?_
    · rintro i w τ G2 hw ⟨k2, l2, r2, s1, rfl⟩
      obtain ⟨m, hm, rfl⟩ := List.mem_map.mp (List.mem_of_getElem? hw)
      obtain ⟨us, e1, e2⟩ := r2 m hm
      have t2 : G2[n]? = some (.lst (ms.map W.loc)) := by rw [k2 n c]; exact a.top
      refine ⟨still_of t2, _, rfl, ?_⟩
      show Turn _ _ (sPut _ _ _ [some (.loc n), some (.loc m)] G2)
      rw [sPut_ok (mo := mVar 1) (mi := mC (.int 0)) (m := mC (.int 99)) (τ := [some (.loc n), some (.loc m)]) (G := G2) (G1 := G2) (G2 := G2) (G3 := G2) (w := .int 99) (n := m) (k := 0) (us := us) rfl rfl rfl e1 e2]
      have hml := (List.getElem?_eq_some_iff.mp e1).1
      refine ⟨fun j hj => ?_, by rw [List.length_set]; exact l2, fun j hj => ?_, _, rfl⟩
      · rw [set_get hml, if_neg (fun z => hj (by rw [z]; exact hm))]
        exact k2 j hj
      · rw [set_get hml]
        by_cases hjm : j = m
        · rw [if_pos hjm]
          exact ⟨_, rfl, by rw [List.length_set]; exact e2⟩
        · rw [if_neg hjm]
          exact r2 j hj
    · rintro τ G2 ⟨k2, l2, _, s1, rfl⟩
      have t2 : G2[n]? = some (.lst (ms.map W.loc)) := by rw [k2 n c]; exact a.top
      exact ⟨still_of t2, _, _, k2, l2, rfl⟩
  refine ⟨G2, k2, l2, ?_⟩
  rw [seq_nx hw]
  simp
theorem like_after {G G1 G2 : GH} {n m : Nat} {pic : List (List Int)} {wide : Nat} (g : Good pic wide) (h : NewP G G1 n pic) (h2 : NewP G1 G2 m pic) : m_law_is_like [.loc n, .loc m] G2 = .ok (.bl true) G2 ∧
    ∃ G3, m_law_marked [.loc n] G2 = .ok (.bl true) G3 ∧ Sy.Keeps G G3 ∧ PicAt G3 m pic := by
  obtain ⟨ms, a, b, c, d⟩ := h.at_
  obtain ⟨ks, a2, b2, c2, d2⟩ := h2.at_
  obtain ⟨o1, o2⟩ := PicAt.old a
  have hm := h2.top
  have hk : ∀ k ∈ ks, k ∉ ms := fun k hk z => by
    have := d2 k hk
    have := o2 k z
    omega
  have hmm : m ∉ ms := fun z => by
    have := o2 m z
    omega
  have := g.h1
  have := g.w1
  have aG := a.keep h2.keep
  refine ⟨is_like_eq aG a2 b c hmm hk (by omega) fun r hr => by rw [g.row r hr]; omega, ?_⟩
  obtain ⟨G3, k3, l3, e3⟩ := marked_at g aG c
  refine ⟨G3, e3, ⟨by rw [l3]; exact (h.keep.trans h2.keep).len, fun j hj => ?_⟩, ks, ⟨?_, ?_⟩⟩
  · rw [k3 j (fun z => by have := d j z; omega)]
    exact (h.keep.trans h2.keep).old j hj
  · rw [k3 m hmm]
    exact a2.top
  · refine paired_of a2.row.length fun i k r e1 e2 => ?_
    rw [k3 k (hk k (List.mem_of_getElem? e1))]
    exact paired_get a2.row i k r e1 e2
theorem picD {G : GH} {n : Nat} {pic : List (List Int)} (h : PicAt G n pic) (k : Nat) : toD (k + 3) G (.loc n) = some (pD pic) := by
  obtain ⟨ms, h⟩ := h
  have e := mapO_rows k h.row
  unfold toD
  simp [h.top, e]
theorem cellP_ok {p : List (List Int)} {wide y x : Nat} (g : Good p wide) (hy : y < p.length) (hx : x < wide) : 0 ≤ cellP p y x ∧ cellP p y x ≤ 15 := by
  have hl := g.row _ (List.getElem_mem hy)
  unfold cellP
  rw [getD_of (List.getElem?_eq_getElem hy), getD_of (List.getElem?_eq_getElem (by omega))]
  exact g.cell _ (List.getElem_mem hy) _ (List.getElem_mem _)
theorem okW_keep {G G' : GH} {w : W} (h : okW G w) (k : Sy.Keeps G G') : okW G' w := by
  cases w with
  | loc n =>
    have hl := okW_lt h
    unfold okW tyOf at h ⊢
    dsimp only at h ⊢
    rw [k.old n hl]
    exact h
  | _ => exact h
theorem pic_len {G : GH} {n : Nat} {pic : List (List Int)} (h : PicAt G n pic) : fLen [.val (.loc n)] G = .ok (.val (.int pic.length)) G := by
  obtain ⟨ms, rr⟩ := h
  have := fLen_loc rr.top
  rw [List.length_map, rr.len, List.length_map] at this
  exact this
theorem pic_wide {G : GH} {n : Nat} {pic : List (List Int)} {wide : Nat} (h : PicAt G n pic) (g : Good pic wide) : ∃ m0, fIx (.val (.loc n)) (.val (.int 0)) G = .ok (.val (.loc m0)) G ∧ fLen [.val (.loc m0)] G = .ok (.val (.int wide)) G ∧ fIx (.val (.loc m0)) (.val (.int 0)) G = .ok (.val (.int (cellP pic 0 0))) G := by
  obtain ⟨m0, hm0, hr0⟩ := h.rowAt g g.h0
  have hl := fLen_loc hr0
  rw [List.length_map, g.row _ (List.getElem_mem g.h0)] at hl
  exact ⟨m0, hm0 G rfl, hl, fIx_loc hr0 (cell_at_row g g.h0 g.w0)⟩
theorem among_int (i lo hi : Int) (G : GH) : m_is_among [.int i, .int lo, .int hi] G = .ok (.bl (decide (lo ≤ i) && decide (i ≤ hi))) G := among_eq (okW_int G i) lo hi
end Lk09
set_option Elab.async false
set_option linter.all false
set_option maxRecDepth 100000
set_option maxHeartbeats 4000000
namespace Lk09
open PySem PySem.Spec PyProof.Rows L2 Sy
theorem nodup_snoc {l : List Nat} {a : Nat} (nd : l.Nodup) (h : a ∉ l) : (l ++ [a]).Nodup := by
  rw [List.nodup_append]
  exact ⟨nd, by simp, fun x hx y hy e => h (by rw [List.mem_singleton.mp hy] at e; rw [← e]; exact hx)⟩
theorem NewP.app {G G1 : GH} {n i : Nat} {pic : List (List Int)} {r : List Int} {S : M T} {τ : Sl} {G2 : GH} (h : NewP G G1 n pic) (hi : τ[i]? = some (some (.loc n))) (hS : S τ G1 = .ok (.tmp (iW r)) G2) (k : Sy.Keeps G1 G2) (hl : pic.length ≤ 1000) :
    ∃ G3, sDrop (mMtF isLst fApp (mVar i) (mCons S mNil)) τ G1 = .nx τ G3 ∧ NewP G G3 n (pic ++ [r]) := by
  obtain ⟨ms, rr, nd, hn, ht⟩ := h.at_
  have rr2 := rr.keep (k.trans (Keeps.app G2 [GO.lst (iW r)]))
  have e2 := last_get G2 (.lst (iW r))
  have hml := rr.len
  rw [List.length_map] at hml
  have hold := PicAt.old (rr.keep k)
  have hnl : G2.length ∉ ms := fun z => by have := hold.2 _ z; omega
  have hne : G2.length ≠ n := by have := hold.1; omega
  have hgl : G.length ≤ G2.length := Nat.le_trans h.keep.len k.len
  have ha := app_one (S := S) (τ := τ) (G := G1) (G1 := G2 ++ [GO.lst (iW r)]) (t := .loc G2.length) hi rr.top (by rw [hS]; rfl) rr2.top (by rw [List.length_map]; omega)
  refine ⟨_, ha, (h.keep.trans (k.trans (Keeps.app _ _))).set h.top _, h.top, ms ++ [G2.length], ?_, nodup_snoc nd hnl, fun z => ?_, fun m hm => ?_⟩
  · have := rr2.snoc hn e2 hne
    rw [List.map_append]
    exact this
  · rcases List.mem_append.mp z with z | z
    · exact hn z
    · exact hne (List.mem_singleton.mp z).symm
  · rcases List.mem_append.mp hm with z | z
    · exact ht m z
    · rw [List.mem_singleton.mp z]
      exact hgl
theorem newP_nil (G : GH) : NewP G (G ++ [GO.lst []]) G.length [] := ⟨Keeps.app _ _, Nat.le_refl _, [], ⟨last_get _ _, .nil⟩, List.nodup_nil, by simp, by simp⟩
theorem range_rep (n : Nat) (c : Int) : (List.range n).map (fun _ => c) = List.replicate n c := by
  induction n with
  | zero => rfl
  | succ n ih => rw [List.range_succ, List.map_append, ih, List.replicate_succ']; rfl
theorem pic_row {p : List (List Int)} {wide y : Nat} (g : Good p wide) (hy : y < p.length) : p[y] = (List.range wide).map fun x => cellP p y x := by
  have h : p[y]? = some ((List.range wide).map fun x => cellP p y x) := by
    conv => lhs; rw [pic_grid g]
    rw [grid_row hy]
  rw [List.getElem?_eq_getElem hy] at h
  exact Option.some.inj h
theorem repW_one (c : Int) (k : Nat) : repW [W.int c] k = iW (List.replicate k c) := by
  unfold repW iW
  rw [List.map_replicate]
  induction k with
  | zero => rfl
  | succ k ih => rw [List.replicate_succ, List.flatten_cons, List.replicate_succ, ih]; rfl
theorem mul_one_list {G : GH} {c : Int} {k : Nat} (hk : k ≤ 1000) : fMul (.tmp [.int c]) (.val (.int k)) G = .ok (.tmp (iW (List.replicate k c))) G := by
  rw [← repW_one]
  unfold fMul
  have i1 : (-(2 ^ 63) : Int) ≤ k := by
    have : (-(2 ^ 63) : Int) ≤ 0 := by decide
    omega
  have i2 : (k : Int) < 2 ^ 63 := by
    have : (1000 : Int) < 2 ^ 63 := by decide
    omega
  have hl : ([W.int c].length * k ≤ 16777216) := by simp; omega
  simp only [wrl_tmp, decide_eq_true i1, decide_eq_true i2, Int.toNat_natCast, decide_eq_true hl, Bool.and_self, if_true]
theorem fAdd_tt {G : GH} {us ws : List W} (hl : us.length + ws.length ≤ 16777216) : fAdd (.tmp us) (.tmp ws) G = .ok (.tmp (us ++ ws)) G := by
  unfold fAdd
  simp only [wrl_tmp, if_pos hl]
theorem paired_app {α β : Type} {P : α → β → Prop} {as cs : List α} {bs ds : List β} (h : Paired P as bs) (q : Paired P cs ds) : Paired P (as ++ cs) (bs ++ ds) := by
  induction h with
  | nil => exact q
  | cons e t ih => exact .cons e ih
theorem iW_app (a b : List Int) : iW a ++ iW b = iW (a ++ b) := by unfold iW; rw [List.map_append]
theorem NewP.appL {G G1 G2 : GH} {n i j m : Nat} {pic : List (List Int)} {r : List Int} {τ : Sl} (h : NewP G G1 n pic) (hi : τ[i]? = some (some (.loc n))) (hj : τ[j]? = some (some (.loc m))) (k : Sy.Keeps G1 G2) (hm : G2[m]? = some (.lst (iW r))) (hml : G1.length ≤ m) (hl : pic.length ≤ 1000) :
    ∃ G3, sDrop (mMtF isLst fApp (mVar i) (mCons (mVar j) mNil)) τ G2 = .nx τ G3 ∧ NewP G G3 n (pic ++ [r]) := by
  obtain ⟨ms, rr, nd, hn, ht⟩ := h.at_
  have rr2 := rr.keep k
  have hpl := rr.len
  rw [List.length_map] at hpl
  have hold := PicAt.old rr
  have hnl : m ∉ ms := fun z => by have := hold.2 _ z; omega
  have hne : m ≠ n := by have := hold.1; omega
  have hgl : G.length ≤ m := Nat.le_trans h.keep.len hml
  have ha := app_one (S := mVar j) (τ := τ) (G := G2) (G1 := G2) (t := .loc m) hi rr2.top (by rw [mVar_at, hj]; rfl) rr2.top (by rw [List.length_map]; omega)
  refine ⟨_, ha, (h.keep.trans k).set h.top _, h.top, ms ++ [m], ?_, nodup_snoc nd hnl, fun z => ?_, fun q hq => ?_⟩
  · have := rr2.snoc hn hm hne
    rw [List.map_append]
    exact this
  · rcases List.mem_append.mp z with z | z
    · exact hn z
    · exact hne (List.mem_singleton.mp z).symm
  · rcases List.mem_append.mp hq with z | z
    · exact ht q z
    · rw [List.mem_singleton.mp z]
      exact hgl
theorem grid_good {wide high : Nat} {f : Nat → Nat → Int} (h0 : 0 < high) (h1 : high ≤ 24) (w0 : 0 < wide) (w1 : wide ≤ 24) (hf : ∀ y x, y < high → x < wide → 0 ≤ f y x ∧ f y x ≤ 15) : Good (grid wide high f) wide := by
  refine ⟨by rw [grid_len]; exact h0, by rw [grid_len]; exact h1, w0, w1, fun r hr => ?_, fun r hr d hd => ?_⟩
  · obtain ⟨y, _, rfl⟩ := List.mem_map.mp hr
    simp
  · obtain ⟨y, hy, rfl⟩ := List.mem_map.mp hr
    obtain ⟨x, hx, rfl⟩ := List.mem_map.mp hd
    exact hf y x (List.mem_range.mp hy) (List.mem_range.mp hx)
theorem part_of_eq {G : GH} {o left top wd hg : Nat} {p : List (List Int)} {wide : Nat} (g : Good p wide) (hp : PicAt G o p) (hx : left + wd ≤ wide) (hy : top + hg ≤ p.length) :
    ∃ (n : Nat) (G' : GH), m_part_of [.loc o, .int left, .int top, .int wd, .int hg] G = .ok (.loc n) G' ∧ NewP G G' n (grid wd hg fun y x => cellP p (top + y) (left + x)) := by
  obtain ⟨ms, r⟩ := hp
  have hml : ms.length = p.length := by have := r.len; rwa [List.length_map] at this
  have hh := g.h1
  have hcut : ∀ G1, G1[o]? = some (.lst (ms.map W.loc)) → fSl (.val (.loc o)) (some (top : Int)) (some ((top : Int) + (hg : Int))) G1 = .ok (.tmp (((ms.map W.loc).drop top).take hg)) G1 := fun G1 h => by
    rw [show (top : Int) + (hg : Int) = ((top + hg : Nat) : Int) by omega, fSl_loc h, cut_nat, show top + hg - top = hg by omega]
  have hcut0 := hcut G r.top
  have hlen : (((ms.map W.loc).drop top).take hg).length = hg := by simp; omega
  have hp2 : Paired (fun w y => ∀ xs, ∃ τ1, gN 5 w [some (.loc o), some (.int left), some (.int top), some (.int wd), some (.int hg), none] = some τ1 ∧ mYes τ1 (G ++ xs) = .ok true (G ++ xs) ∧ mSl (mVar 5) (mP (mVar 1)) (mP (mBin fAdd (mVar 1) (mVar 3))) τ1 (G ++ xs) = .ok (.tmp (iW ((List.range wd).map fun x => cellP p (top + y) (left + x)))) (G ++ xs)) (((ms.map W.loc).drop top).take hg) (List.range hg) := by
    refine paired_of (by rw [hlen, List.length_range]) fun i w y e1 e2 xs => ?_
    rw [List.getElem?_take] at e1
    by_cases hi : i < hg
    · rw [if_pos hi, List.getElem?_drop, List.getElem?_map] at e1
      rw [List.getElem?_range hi] at e2
      cases e2
      cases e3 : ms[top + i]? with
      | none => rw [e3] at e1; cases e1
      | some m =>
        rw [e3] at e1
        cases e1
        have hr : G[m]? = some (.lst (iW p[top + i])) := paired_get r.row (top + i) m _ e3 (by rw [List.getElem?_map, List.getElem?_eq_getElem (show top + i < p.length by omega)]; rfl)
        have hr2 := (Keeps.app G xs).get hr
        have ec : fSl (.val (.loc m)) (some (left : Int)) (some ((left : Int) + (wd : Int))) (G ++ xs) = .ok (.tmp (iW ((List.range wd).map fun x => cellP p (top + i) (left + x)))) (G ++ xs) := by
          rw [show (left : Int) + (wd : Int) = ((left + wd : Nat) : Int) by omega, fSl_loc hr2, cut_nat, show left + wd - left = wd by omega]
          congr 2
          apply List.ext_getElem?
          intro x
          rw [List.getElem?_take]
          by_cases hxx : x < wd
          · rw [if_pos hxx, List.getElem?_drop, cell_at_row g (show top + i < p.length by omega) (show left + x < wide by omega), List.getElem?_map, List.getElem?_map, List.getElem?_range hxx]
            rfl
          · rw [if_neg hxx, List.getElem?_eq_none (by simp; omega)]
        refine ⟨_, rfl, rfl, ?_⟩
        generalize iW ((List.range wd).map fun x => cellP p (top + i) (left + x)) = R at *
        simp [ec]
    · rw [List.getElem?_eq_none (by simp; omega)] at e2
      cases e2
  have hc := compF_allocP (fun y => iW ((List.range wd).map fun x => cellP p (top + y) (left + x))) (src := []) (fun xs => still_nil) hp2
  rw [List.length_range] at hc
  have hnew := newP_laid G (grid wd hg fun y x => cellP p (top + y) (left + x))
  have hl2 : laidR G ((grid wd hg fun y x => cellP p (top + y) (left + x)).map iW) = G ++ (List.range hg).map (fun y => GO.lst (iW ((List.range wd).map fun x => cellP p (top + y) (left + x)))) ++ [.lst (locs G.length hg)] := by
    unfold laidR grid
    rw [List.length_map, List.length_map, List.length_range, List.map_map, List.map_map, List.append_assoc]
    rfl
  rw [grid_len, hl2] at hnew
  refine ⟨_, _, mDef_ok [some (.loc o), some (.int left), some (.int top), some (.int wd), some (.int hg), none] ?_, hnew⟩
  unfold b_part_of
  generalize hL : ((ms.map W.loc).drop top).take hg = L at *
  have hxl : ((List.range hg).map (fun y => GO.lst (iW ((List.range wd).map fun x => cellP p (top + y) (left + x))))).length = hg := by simp
  generalize (List.range hg).map (fun y => GO.lst (iW ((List.range wd).map fun x => cellP p (top + y) (left + x)))) = X at *
  have hl16 : L.length ≤ 16777216 := by omega
  simp [mComp_at, miA_at, hcut0, hl16, wipeS, hc, hxl]
theorem isE1 (c : Nat) (a : Addr) (k : W) (b : Bool) (G : GH) (h : (ckW k).bind (isub it c) = some b) : fIsE it c a [.val (.exn c a), .val k] G = .ok (.val (.bl b)) G := fIsE_ok h
def refusedW (n : Nat) : W := .tup [.str "refused", .loc n, .bl true]
abbrev bls (b1 b2 b3 : Bool) : GO := .lst [.bl b1, .bl b2, .bl b3]
theorem thunk_ok {k : Nat} {q : Str} {mb : M T} {τ : Sl} {G G1 : GH} {w : W} (hT : G[k]? = some (.tb k q)) (h : mb τ G = .ok (.val w) G1) : mThunk k q 3 t_law_refused mb τ G = .ok (.val w) G1 := by
  rw [mThunk_at hT, h]
  unfold t_law_refused
  rw [try_rt (w := w) (G1 := G1) (by simp)]
  rfl
theorem thunk_ex {k : Nat} {q : Str} {mb : M T} {τ : Sl} {G G1 : GH} {c : Nat} (hT : G[k]? = some (.tb k q)) (h : mb τ G = .ex c [] G1) (hx : xsub xt c 0 = some true) {b1 b2 b3 : Bool} (h1 : (ckW (.cls 1)).bind (isub it c) = some b1) (h3 : (ckW (.cls 3)).bind (isub it c) = some b2) (h2 : (ckW (.cls 2)).bind (isub it c) = some b3) (hv : (ckW (.ty "ValueError")).bind (isub it c) = some true) :
    mThunk k q 3 t_law_refused mb τ G = .ok (.val (refusedW G1.length)) (G1 ++ [bls b1 b2 b3]) := by
  rw [mThunk_at hT, h]
  unfold t_law_refused
  rw [try_ex (c := c) (τ1 := List.replicate 3 none) (G1 := G1) (r := .rt (refusedW G1.length) (G1 ++ [bls b1 b2 b3])) (by simp) hx fun a => ?_]
  · rfl
  · have q1 := fun G => isE1 c a (.cls 1) b1 G h1
    have q2 := fun G => isE1 c a (.cls 3) b2 G h3
    have q4 := fun G => isE1 c a (.cls 2) b3 G h2
    have q3 := fun G => isE1 c a (.ty "ValueError") true G hv
    have e : (List.replicate 3 (none : Option W)).set 2 (some (.exn c a)) = [none, none, some (.exn c a)] := rfl
    rw [e, seq_nx (τ1 := [none, some (.loc G1.length), some (.exn c a)]) (G1 := G1 ++ [bls b1 b2 b3]) (by simp [q1, q2, q4, bls])]
    simp [q3, refusedW]
    rfl
theorem toD_bl3 (n : Nat) (b1 b2 b3 : Bool) (G : GH) : mapO (toD (n + 1) G) [W.bl b1, .bl b2, .bl b3] = some [.bool b1, .bool b2, .bool b3] := rfl
theorem refused_dat {G : GH} {n : Nat} {b1 b2 b3 : Bool} (h : G[n]? = some (bls b1 b2 b3)) (k : Nat) : toD (k + 3) G (refusedW n) = some (.tuple [.str "refused", .list [.bool b1, .bool b2, .bool b3], .bool true]) := by
  unfold refusedW
  rw [toD_tup, mapO_cons, mapO_cons, mapO_cons, mapO_nil]
  have e1 : toD (k + 2) G (.str "refused") = some (.str "refused") := toD_str (n := k + 1) refused_ok
  have e2 : toD (k + 2) G (.loc n) = some (.list [.bool b1, .bool b2, .bool b3]) := by
    have e3 : rdw G (.loc n) = some [.bl b1, .bl b2, .bl b3] := by simp [h]
    show ((rdw G (.loc n)).bind fun ws => (mapO (toD (k + 1) G) ws).map PyData.list) = _
    rw [e3, Option.bind_some, toD_bl3]
    rfl
  have e4 : toD (k + 2) G (.bl true) = some (.bool true) := rfl
  rw [e1, e2, e4]
  rfl
theorem refused_eq {G : GH} {n m : Nat} {b1 b2 b3 : Bool} (h : G[n]? = some (bls b1 b2 b3)) (h2 : G[m]? = some (bls b1 b2 b3)) : fEq (.val (refusedW n)) (.val (.tup [.str "refused", .loc m, .bl true])) G = .ok (.val (.bl true)) G := by
  have e1 : toDT G (.val (refusedW n)) = some (.tuple [.str "refused", .list [.bool b1, .bool b2, .bool b3], .bool true]) := refused_dat h 6
  have e2 : toDT G (.val (refusedW m)) = some (.tuple [.str "refused", .list [.bool b1, .bool b2, .bool b3], .bool true]) := refused_dat h2 6
  exact eq_same e1 e2 (by rfl)
theorem refused_eq2 {G : GH} {L n1 n2 m : Nat} {b1 b2 b3 : Bool} (hL : G[L]? = some (.lst [refusedW n1, refusedW n2])) (h1 : G[n1]? = some (bls b1 b2 b3)) (h2 : G[n2]? = some (bls b1 b2 b3)) (hm : G[m]? = some (bls b1 b2 b3)) : fEq (.val (.loc L)) (.tmp [refusedW m, refusedW m]) G = .ok (.val (.bl true)) G := by
  have e1 : toDT G (.val (.loc L)) = some (.list [.tuple [.str "refused", .list [.bool b1, .bool b2, .bool b3], .bool true], .tuple [.str "refused", .list [.bool b1, .bool b2, .bool b3], .bool true]]) := by
    have e3 : rdw G (.loc L) = some [refusedW n1, refusedW n2] := by simp [hL]
    show ((rdw G (.loc L)).bind fun ws => (mapO (toD 8 G) ws).map PyData.list) = _
    rw [e3, Option.bind_some, mapO_cons, mapO_cons, mapO_nil, refused_dat h1 5, refused_dat h2 5]
    rfl
  have e2 : toDT G (.tmp [refusedW m, refusedW m]) = some (.list [.tuple [.str "refused", .list [.bool b1, .bool b2, .bool b3], .bool true], .tuple [.str "refused", .list [.bool b1, .bool b2, .bool b3], .bool true]]) := by
    show (mapO (toD 8 G) [refusedW m, refusedW m]).map PyData.list = _
    rw [mapO_cons, mapO_cons, mapO_nil, refused_dat hm 5]
    rfl
  exact eq_same e1 e2 (by rfl)
def isInt : W → Bool
  | .int _ => true
  | _ => false
theorem is_number_eq {G : GH} {w : W} (h : okW G w) : m_law_is_number [w] G = .ok (.bl (isInt w)) G := by
  refine mDef_ok [some w] ?_
  unfold b_law_is_number
  cases w with
  | int i => simp [isInt]
  | bl b => simp [isInt]
  | non => simp [isInt]
  | str x => simp [isInt]
  | tup ws => simp [isInt]
  | loc n =>
    have e : ∃ a, tyOf G (.val (.loc n)) = some a ∧ subTy a "int" = some false := by
      unfold okW tyOf at h
      unfold tyOf
      dsimp only at h ⊢
      cases e : G[n]? with
      | none => rw [e] at h; cases h
      | some o =>
        rw [e] at h
        cases o with
        | lst ws => exact ⟨_, rfl, by decide⟩
        | dK ws => exact ⟨_, rfl, by decide⟩
        | dT ws => exact ⟨_, rfl, by decide⟩
        | ins c fs => cases h
        | tb k q => cases h
    obtain ⟨a, e1, e2⟩ := e
    have := isi_of e1 e2
    simp [isInt, this]
  | frl ws =>
    have := isi_of (G := G) (t := .val (.frl ws)) (a := "list") (b := "int") (r := false) rfl (by decide)
    simp [isInt, this]
  | ty n => cases h
  | cls n => cases h
  | exn c a => cases h
theorem among_not {w : W} (h : isInt w = false) (lo hi : Int) : amongW lo hi w = false := by
  cases w with
  | int i => cases h
  | _ => rfl
end Lk09
set_option Elab.async false
set_option linter.all false
set_option maxRecDepth 100000
set_option maxHeartbeats 4000000
namespace Lk09
open PySem PySem.Spec PyProof.Rows L2 Sy
/-! what is cut out -/
def CutB (p : List (List Int)) (wide : Nat) (w0 w1 w2 w3 : W) : Prop := ∃ l t a b : Nat, w0 = .int l ∧ w1 = .int t ∧ w2 = .int a ∧ w3 = .int b ∧ 1 ≤ a ∧ 1 ≤ b ∧ l + a ≤ wide ∧ t + b ≤ p.length
def cutP (p : List (List Int)) (l t a b : Nat) : List (List Int) := grid a b fun y x => cellP p (t + y) (l + x)
theorem cut_good {p : List (List Int)} {wide l t a b : Nat} (g : Good p wide) (ha : 1 ≤ a) (hb : 1 ≤ b) (h1 : l + a ≤ wide) (h2 : t + b ≤ p.length) : Good (cutP p l t a b) a := by
  have := g.h1
  have := g.w1
  exact grid_good (by omega) (by omega) (by omega) (by omega) fun y x hy hx => cellP_ok g (by omega) (by omega)
theorem cut_out_good {G : GH} {o l t a b : Nat} {p : List (List Int)} {wide : Nat} (g : Good p wide) (hp : PicAt G o p) (ha : 1 ≤ a) (hb : 1 ≤ b) (h1 : l + a ≤ wide) (h2 : t + b ≤ p.length) :
    ∃ (n : Nat) (G' : GH), m_cut_out [.loc o, .int l, .int t, .int a, .int b] G = .ok (.loc n) G' ∧ NewP G G' n (cutP p l t a b) := by
  have n1 : m_need_picture [.loc o] G = .ok .non G := by obtain ⟨ms, r⟩ := hp; exact need_picture_good r g
  have hl := pic_len hp
  obtain ⟨m0, w1, w2, _⟩ := pic_wide hp g
  have c0 := among_int (l : Int) 0 ((wide : Int) - 1) G
  rw [decide_eq_true (show (0 : Int) ≤ l by omega), decide_eq_true (show (l : Int) ≤ (wide : Int) - 1 by omega)] at c0
  have c1 := among_int (t : Int) 0 ((p.length : Int) - 1) G
  rw [decide_eq_true (show (0 : Int) ≤ t by omega), decide_eq_true (show (t : Int) ≤ (p.length : Int) - 1 by omega)] at c1
  have c2 := among_int (a : Int) 1 ((wide : Int) - (l : Int)) G
  rw [decide_eq_true (show (1 : Int) ≤ a by omega), decide_eq_true (show (a : Int) ≤ (wide : Int) - (l : Int) by omega)] at c2
  have c3 := among_int (b : Int) 1 ((p.length : Int) - (t : Int)) G
  rw [decide_eq_true (show (1 : Int) ≤ b by omega), decide_eq_true (show (b : Int) ≤ (p.length : Int) - (t : Int) by omega)] at c3
  obtain ⟨n, G', h3, hn⟩ := part_of_eq (left := l) (top := t) (wd := a) (hg := b) g hp h1 h2
  refine ⟨n, G', mDef_ok [some (.loc o), some (.int l), some (.int t), some (.int a), some (.int b)] ?_, hn⟩
  unfold b_cut_out
  refine (seq_nx (τ1 := [some (.loc o), some (.int l), some (.int t), some (.int a), some (.int b)]) (G1 := G) (by simp [n1])).trans ?_
  refine (seq_no (G1 := G) (by simp [w1, w2, hl, c0, c1])).trans ?_
  refine (seq_no (G1 := G) (by simp [w1, w2, hl, c2, c3])).trans ?_
  simp [h3]
theorem cut_out_bad1 {G : GH} {w : W} (h : m_is_picture [w] G = .ok (.bl false) G) (x y z u : W) : m_cut_out [w, x, y, z, u] G = .ex 1 [] G := by
  have h1 := need_picture_bad h
  refine mDef_ex [some w, some x, some y, some z, some u] (τ1 := [some w, some x, some y, some z, some u]) ?_
  unfold b_cut_out
  exact seq_ex (by simp [h1])
theorem among_yes {lo hi : Int} {w : W} (h : amongW lo hi w = true) : ∃ i : Int, w = .int i ∧ lo ≤ i ∧ i ≤ hi := by
  cases w with
  | int i =>
    have h : (decide (lo ≤ i) && decide (i ≤ hi)) = true := h
    rw [Bool.and_eq_true, decide_eq_true_eq, decide_eq_true_eq] at h
    exact ⟨i, rfl, h.1, h.2⟩
  | _ => cases h
theorem cut_out_bad {G : GH} {o : Nat} {w0 w1 w2 w3 : W} {p : List (List Int)} {wide : Nat} (g : Good p wide) (hp : PicAt G o p) (k0 : okW G w0) (k1 : okW G w1) (k2 : okW G w2) (k3 : okW G w3) (hb : ¬ CutB p wide w0 w1 w2 w3) : m_cut_out [.loc o, w0, w1, w2, w3] G = .ex 3 [] G := by
  have n1 : m_need_picture [.loc o] G = .ok .non G := by obtain ⟨ms, r⟩ := hp; exact need_picture_good r g
  have hl := pic_len hp
  obtain ⟨m0, x1, x2, _⟩ := pic_wide hp g
  have c0 := among_eq k0 0 ((wide : Int) - 1)
  have c1 := among_eq k1 0 ((p.length : Int) - 1)
  refine mDef_ex [some (.loc o), some w0, some w1, some w2, some w3] (τ1 := [some (.loc o), some w0, some w1, some w2, some w3]) ?_
  unfold b_cut_out
  refine (seq_nx (τ1 := [some (.loc o), some w0, some w1, some w2, some w3]) (G1 := G) (by simp [n1])).trans ?_
  cases e0 : amongW 0 ((wide : Int) - 1) w0 with
  | false =>
    rw [e0] at c0
    exact seq_ex ((if_yes (G1 := G) (by simp [x1, x2, c0])).trans (by simp))
  | true =>
    rw [e0] at c0
    cases e1 : amongW 0 ((p.length : Int) - 1) w1 with
    | false =>
      rw [e1] at c1
      exact seq_ex ((if_yes (G1 := G) (by simp [x1, x2, hl, c0, c1])).trans (by simp))
    | true =>
      rw [e1] at c1
      obtain ⟨l, rfl, l0, l1⟩ := among_yes e0
      obtain ⟨t, rfl, t0, t1⟩ := among_yes e1
      refine (seq_no (G1 := G) (by simp [x1, x2, hl, c0, c1])).trans ?_
      have c2 := among_eq k2 1 ((wide : Int) - l)
      have c3 := among_eq k3 1 ((p.length : Int) - t)
      cases e2 : amongW 1 ((wide : Int) - l) w2 with
      | false =>
        rw [e2] at c2
        exact seq_ex ((if_yes (G1 := G) (by simp [x1, x2, c2])).trans (by simp))
      | true =>
        rw [e2] at c2
        cases e3 : amongW 1 ((p.length : Int) - t) w3 with
        | false =>
          rw [e3] at c3
          exact seq_ex ((if_yes (G1 := G) (by simp [x1, x2, hl, c2, c3])).trans (by simp))
        | true =>
          obtain ⟨a, rfl, a0, a1⟩ := among_yes e2
          obtain ⟨b, rfl, b0, b1⟩ := among_yes e3
          obtain ⟨l', rfl⟩ := Int.eq_ofNat_of_zero_le l0
          obtain ⟨t', rfl⟩ := Int.eq_ofNat_of_zero_le t0
          obtain ⟨a', rfl⟩ := Int.eq_ofNat_of_zero_le (show 0 ≤ a by omega)
          obtain ⟨b', rfl⟩ := Int.eq_ofNat_of_zero_le (show 0 ≤ b by omega)
          exact absurd ⟨l', t', a', b', rfl, rfl, rfl, rfl, by omega, by omega, by omega, by omega⟩ hb
/-- a part that is drawn: four numbers, one of them bent at times -/
inductive PartK (G : GH) : W → W → W → W → Prop
  | four (a b c d : Int) : PartK G (.int a) (.int b) (.int c) (.int d)
  | odd {w0 w1 w2 w3 w : W} {e : PyData} (ok : okW G w) (h : isInt w = false) (hd : toD 8 G w = some e) (k0 : okW G w0) (k1 : okW G w1) (k2 : okW G w2) (k3 : okW G w3) (hf : [w0, w1, w2, w3].filter (fun w => !isInt w) = [w]) (hm : w ∈ [w0, w1, w2, w3]) : PartK G w0 w1 w2 w3
theorem PartK.not {G : GH} {w0 w1 w2 w3 w : W} {p : List (List Int)} {wide : Nat} (h : isInt w = false) (hm : w ∈ [w0, w1, w2, w3]) : ¬ CutB p wide w0 w1 w2 w3 := by
  rintro ⟨l, t, a, b, rfl, rfl, rfl, rfl, _⟩
  simp only [List.mem_cons, List.not_mem_nil, or_false] at hm
  rcases hm with rfl | rfl | rfl | rfl <;> cases h
theorem PartK.oks {G : GH} {w0 w1 w2 w3 : W} (K : PartK G w0 w1 w2 w3) : okW G w0 ∧ okW G w1 ∧ okW G w2 ∧ okW G w3 := by
  cases K with
  | four a b c d => exact ⟨rfl, rfl, rfl, rfl⟩
  | odd ok h hd k0 k1 k2 k3 hf hm => exact ⟨k0, k1, k2, k3⟩
noncomputable abbrev lcOdd : M Bool := (mB (mBin fNe (mComp (miA (mVar 1)) (gN 7) (mNot (mTru (mCall m_law_is_number [] (mCons (mVar 7) mNil)))) (mVar 7) [7]) (mLst mNil)))
theorem lc_filter {G : GH} {o L : Nat} {w0 w1 w2 w3 : W} (k0 : okW G w0) (k1 : okW G w1) (k2 : okW G w2) (k3 : okW G w3) (hL : G[L]? = some (.lst [w0, w1, w2, w3])) :
    compF [(L, [w0, w1, w2, w3])] (gN 7) (mNot (mTru (mCall m_law_is_number [] (mCons (mVar 7) mNil)))) (mVar 7) [some (.loc o), some (.loc L), none, none, none, none, none, none, none] [w0, w1, w2, w3] G = .ok ([w0, w1, w2, w3].filter (fun w => !isInt w)) G := by
  have h := compF_filterP (src := [(L, [w0, w1, w2, w3])]) (g := gN 7) (c := mNot (mTru (mCall m_law_is_number [] (mCons (mVar 7) mNil)))) (e := mVar 7) (τ := [some (.loc o), some (.loc L), none, none, none, none, none, none, none]) (G := G) (ws := [w0, w1, w2, w3]) (ys := [w0, w1, w2, w3]) (fun w => !isInt w) (fun w => w) (still_of hL) (paired_of rfl fun i w y e1 e2 => by
    rw [e1] at e2
    cases e2
    have hm := List.mem_of_getElem? e1
    have ok : okW G w := by
      simp only [List.mem_cons, List.not_mem_nil, or_false] at hm
      rcases hm with rfl | rfl | rfl | rfl
      · exact k0
      · exact k1
      · exact k2
      · exact k3
    have hn := is_number_eq ok
    exact ⟨[some (.loc o), some (.loc L), none, none, none, none, none, some w, none], rfl, by simp [hn], fun _ => rfl⟩)
  rw [List.map_id'] at h
  exact h
theorem law_cut_bad {G : GH} {o L : Nat} {w0 w1 w2 w3 : W} {p : List (List Int)} {wide : Nat} (g : Good p wide) (hp : PicAt G o p) (hL : G[L]? = some (.lst [w0, w1, w2, w3])) (K : PartK G w0 w1 w2 w3) (hb : ¬ CutB p wide w0 w1 w2 w3) : m_law_cut [.loc o, .loc L] G = .ok .non G := by
  obtain ⟨k0, k1, k2, k3⟩ := K.oks
  have hc := lc_filter (o := o) k0 k1 k2 k3 hL
  have hit := iterA_at hL
  refine mDef_ok [some (.loc o), some (.loc L), none, none, none, none, none, none, none] ?_
  unfold b_law_cut
  cases K with
  | @odd _ _ _ _ w e ok h hd _ _ _ _ hf hm =>
    rw [hf] at hc
    have hne : fNe (.tmp [w]) (.tmp []) G = .ok (.val (.bl true)) G := by
      have e1 : toDT G (.tmp [w]) = some (.list [e]) := by
        show (mapO (toD 8 G) [w]).map PyData.list = _
        rw [mapO_cons, mapO_nil, hd]
        rfl
      rw [fNe_data e1 (show toDT G (.tmp []) = some (.list (([] : List Int).map PyData.int)) from toDT_tmpI _ [])]
      rfl
    exact (seq_yes (G1 := G) (by simp [mComp_at, miA_at, hit, wipeS, hc, hne])).trans (by simp)
  | four a b c d =>
    have hf : [W.int a, .int b, .int c, .int d].filter (fun w => !isInt w) = [] := rfl
    rw [hf] at hc
    have hne : fNe (.tmp []) (.tmp []) G = .ok (.val (.bl false)) G := by
      rw [fNe_data (show toDT G (.tmp []) = some (.list (([] : List Int).map PyData.int)) from toDT_tmpI _ []) (show toDT G (.tmp []) = some (.list (([] : List Int).map PyData.int)) from toDT_tmpI _ [])]
      rfl
    refine (seq_no (G1 := G) (by simp [mComp_at, miA_at, hit, wipeS, hc, hne])).trans ?_
    have hr : rdw G (.loc L) = some [.int a, .int b, .int c, .int d] := by simp [hL]
    refine (seq_nx (τ1 := [some (.loc o), some (.loc L), some (.int d), some (.int a), some (.int b), some (.int c), none, none, none]) (G1 := G) (by
      unfold sAsgL
      simp [mF_at, hr, gC, gE, gN])).trans ?_
    have hl := pic_len hp
    obtain ⟨m0, x1, x2, _⟩ := pic_wide hp g
    refine (seq_yes (G1 := G) ?_).trans (by simp)
    by_cases c1 : a < 0
    · simp [c1]
    · by_cases c2 : b < 0
      · simp [c1, c2]
      · by_cases c3 : c < 1
        · simp [c1, c2, c3]
        · by_cases c4 : d < 1
          · simp [c1, c2, c3, c4]
          · by_cases c5 : (wide : Int) < a + c
            · simp [c1, c2, c3, c4, x1, x2, c5]
            · by_cases c6 : (p.length : Int) < b + d
              · simp [c1, c2, c3, c4, x1, x2, hl, c5, c6]
              · obtain ⟨a', rfl⟩ := Int.eq_ofNat_of_zero_le (show 0 ≤ a by omega)
                obtain ⟨b', rfl⟩ := Int.eq_ofNat_of_zero_le (show 0 ≤ b by omega)
                obtain ⟨c', rfl⟩ := Int.eq_ofNat_of_zero_le (show 0 ≤ c by omega)
                obtain ⟨d', rfl⟩ := Int.eq_ofNat_of_zero_le (show 0 ≤ d by omega)
                exact absurd ⟨a', b', c', d', rfl, rfl, rfl, rfl, by omega, by omega, by omega, by omega⟩ hb
theorem law_cut_good {G : GH} {o L l t a b : Nat} {p : List (List Int)} {wide : Nat} (g : Good p wide) (hp : PicAt G o p) (hL : G[L]? = some (.lst [.int l, .int t, .int a, .int b])) (ha : 1 ≤ a) (hb : 1 ≤ b) (h1 : l + a ≤ wide) (h2 : t + b ≤ p.length) :
    ∃ (n : Nat) (G' : GH), m_law_cut [.loc o, .loc L] G = .ok (.loc n) G' ∧ NewP G G' n (cutP p l t a b) := by
  have hc := lc_filter (o := o) (w0 := .int l) (w1 := .int t) (w2 := .int a) (w3 := .int b) rfl rfl rfl rfl hL
  have hit := iterA_at hL
  have hf : [W.int l, .int t, .int a, .int b].filter (fun w => !isInt w) = [] := rfl
  rw [hf] at hc
  have hne : fNe (.tmp []) (.tmp []) G = .ok (.val (.bl false)) G := by
    rw [fNe_data (show toDT G (.tmp []) = some (.list (([] : List Int).map PyData.int)) from toDT_tmpI _ []) (show toDT G (.tmp []) = some (.list (([] : List Int).map PyData.int)) from toDT_tmpI _ [])]
    rfl
  have hr : rdw G (.loc L) = some [.int l, .int t, .int a, .int b] := by simp [hL]
  have hl := pic_len hp
  obtain ⟨m0, x1, x2, _⟩ := pic_wide hp g
  have hh := g.h1
  have hw := g.w1
  have c1 : ¬ ((l : Int) < 0) := by omega
  have c2 : ¬ ((t : Int) < 0) := by omega
  have c3 : ¬ ((a : Int) < 1) := by omega
  have c4 : ¬ ((b : Int) < 1) := by omega
  have c5 : ¬ ((wide : Int) < (l : Int) + (a : Int)) := by omega
  have c6 : ¬ ((p.length : Int) < (t : Int) + (b : Int)) := by omega
  have hcomp := compF_allocR (src := []) (g := gN 6) (c := mYes) (e := mComp (miR (mCons (mVar 5) mNil)) (gN 8) mYes (mBin fIx (mBin fIx (mVar 0) (mBin fAdd (mVar 4) (mVar 6))) (mBin fAdd (mVar 3) (mVar 8))) [8]) (τ := [some (.loc o), some (.loc L), some (.int b), some (.int l), some (.int t), some (.int a), none, none, none]) (G := G) (n := b) (fun y => iW ((List.range a).map fun x => cellP p (t + y) (l + x))) (fun xs => still_nil) (fun y hy xs => ⟨[some (.loc o), some (.loc L), some (.int b), some (.int l), some (.int t), some (.int a), some (.int (y : Nat)), none, none], rfl, rfl, by
    have hin := compF_range (g := gN 8) (c := mYes) (e := mBin fIx (mBin fIx (mVar 0) (mBin fAdd (mVar 4) (mVar 6))) (mBin fAdd (mVar 3) (mVar 8))) (τ := [some (.loc o), some (.loc L), some (.int b), some (.int l), some (.int t), some (.int a), some (.int (y : Nat)), none, none]) (G := G ++ xs) (n := a) (fun x => W.int (cellP p (t + y) (l + x))) (fun x hx => ⟨[some (.loc o), some (.loc L), some (.int b), some (.int l), some (.int t), some (.int a), some (.int (y : Nat)), none, some (.int (x : Nat))], rfl, rfl, by
      obtain ⟨m, hm, hrow⟩ := (hp.keep (Keeps.app G xs)).rowAt g (show t + y < p.length by omega)
      have hm' := hm _ rfl
      have hcell := fIx_loc hrow (cell_at_row g (show t + y < p.length by omega) (show l + x < wide by omega))
      rw [show ((t + y : Nat) : Int) = (t : Int) + (y : Int) by omega] at hm'
      rw [show ((l + x : Nat) : Int) = (l : Int) + (x : Int) by omega] at hcell
      generalize cellP p (t + y) (l + x) = v at *
      simp [hm', hcell]⟩)
    have hir := iterR_nat a (by omega) (G ++ xs)
    have hl16 : (rangeW 0 a).length ≤ 16777216 := by rw [rangeW_len]; omega
    rw [show (List.range a).map (fun x => W.int (cellP p (t + y) (l + x))) = iW ((List.range a).map fun x => cellP p (t + y) (l + x)) by
      unfold iW
      rw [List.map_map]
      rfl] at hin
    generalize iW ((List.range a).map fun x => cellP p (t + y) (l + x)) = X at *
    generalize rangeW 0 a = R at *
    simp [mComp_at, miR_at, hir, hl16, wipeS, hin]⟩)
  have hnew := newP_laid G (cutP p l t a b)
  have hl2 : laidR G ((cutP p l t a b).map iW) = G ++ (List.range b).map (fun y => GO.lst (iW ((List.range a).map fun x => cellP p (t + y) (l + x)))) ++ [.lst (locs G.length b)] := by
    unfold laidR cutP grid
    rw [List.length_map, List.length_map, List.length_range, List.map_map, List.map_map, List.append_assoc]
    rfl
  rw [show (cutP p l t a b).length = b by unfold cutP; rw [grid_len], hl2] at hnew
  refine ⟨_, _, mDef_ok [some (.loc o), some (.loc L), none, none, none, none, none, none, none] ?_, hnew⟩
  unfold b_law_cut
  refine (seq_no (G1 := G) (by simp [mComp_at, miA_at, hit, wipeS, hc, hne])).trans ?_
  refine (seq_nx (τ1 := [some (.loc o), some (.loc L), some (.int b), some (.int l), some (.int t), some (.int a), none, none, none]) (G1 := G) (by
    unfold sAsgL
    simp [mF_at, hr, gC, gE, gN])).trans ?_
  refine (seq_no (G1 := G) (by simp [c1, c2, c3, c4, x1, x2, hl, c5, c6])).trans ?_
  have hir := iterR_nat b (by omega) G
  have hl16 : (rangeW 0 b).length ≤ 16777216 := by rw [rangeW_len]; omega
  have hxl : ((List.range b).map (fun y => GO.lst (iW ((List.range a).map fun x => cellP p (t + y) (l + x))))).length = b := by simp
  generalize (List.range b).map (fun y => GO.lst (iW ((List.range a).map fun x => cellP p (t + y) (l + x)))) = X at *
  generalize rangeW 0 b = R at *
  rw [sRet_at, mF_at, mComp_at, miR_at]
  simp [hir, hl16, wipeS, hcomp, hxl]
end Lk09
set_option Elab.async false
set_option linter.all false
set_option maxRecDepth 100000
set_option maxHeartbeats 4000000
namespace Lk09
open PySem PySem.Spec PyProof.Rows L2 Sy
/-! the part that is drawn -/
noncomputable abbrev lpOdd : M T := (mLst (mCons (mUn fNeg (mC (.int 1))) (mCons (mBin fIx (mLst (mCons (mVar 1) (mCons (mVar 2) (mCons (mBin fAdd (mBin fSub (mVar 1) (mVar 7)) (mC (.int 1))) (mCons (mBin fAdd (mBin fSub (mVar 2) (mVar 11)) (mC (.int 1))) mNil))))) (mVar 3)) (mCons (mBin fSub (mC (.int 0)) (mBin fMulB (mC (.int 2)) (mBin fLt (mVar 3) (mC (.int 2))))) (mCons (mBin fAdd (mC (.int 25)) (mVar 6)) (mCons (mC (.bl true)) (mCons (mC .non) (mCons (mC (.str "1")) (mCons (mLst (mCons (mC (.int 1)) mNil)) mNil)))))))))
inductive ItemK (G : GH) : W → Prop
  | num (z : Int) : ItemK G (.int z)
  | odd {w : W} {e : PyData} (ok : okW G w) (h : isInt w = false) (hd : toD 8 G w = some e) : ItemK G w
theorem isInt_int (z : Int) : isInt (.int z) = true := rfl
theorem part_set {G : GH} {w : W} (K : ItemK G w) (a b c d : Int) {k : Nat} (hk : k < 4) : ∃ w0 w1 w2 w3, [W.int a, .int b, .int c, .int d].set k w = [w0, w1, w2, w3] ∧ PartK G w0 w1 w2 w3 := by
  rcases (show k = 0 ∨ k = 1 ∨ k = 2 ∨ k = 3 by omega) with rfl | rfl | rfl | rfl
  · refine ⟨_, _, _, _, rfl, ?_⟩
    cases K with
    | num z => exact .four _ _ _ _
    | odd ok h hd => exact .odd ok h hd ok rfl rfl rfl (by simp [List.filter_cons, h, isInt_int]) (by simp)
  · refine ⟨_, _, _, _, rfl, ?_⟩
    cases K with
    | num z => exact .four _ _ _ _
    | odd ok h hd => exact .odd ok h hd rfl ok rfl rfl (by simp [List.filter_cons, h, isInt_int]) (by simp)
  · refine ⟨_, _, _, _, rfl, ?_⟩
    cases K with
    | num z => exact .four _ _ _ _
    | odd ok h hd => exact .odd ok h hd rfl rfl ok rfl (by simp [List.filter_cons, h, isInt_int]) (by simp)
  · refine ⟨_, _, _, _, rfl, ?_⟩
    cases K with
    | num z => exact .four _ _ _ _
    | odd ok h hd => exact .odd ok h hd rfl rfl rfl ok (by simp [List.filter_cons, h, isInt_int]) (by simp)
theorem law_part_eq (ns : List Int) {w h : Nat} (hw : 0 < w) (hh : 0 < h) (hw2 : w ≤ 24) (hh2 : h ≤ 24) (G : GH) : ∃ (L : Nat) (G' : GH) (w0 w1 w2 w3 : W), m_law_part [scr ns, .int w, .int h] G = .ok (.loc L) G' ∧ Sy.Keeps G G' ∧ G'[L]? = some (.lst [w0, w1, w2, w3]) ∧ PartK G' w0 w1 w2 w3 := by
  have cl3 : ∀ G, m_law_cell_at [scr ns, .int 3] G = .ok (.int (cellZ ns 3)) G := fun G => cell_eq ns 3 (by decide) G
  have cl4 : ∀ G, m_law_cell_at [scr ns, .int 4] G = .ok (.int (cellZ ns 4)) G := fun G => cell_eq ns 4 (by decide) G
  have cl5 : ∀ G, m_law_cell_at [scr ns, .int 5] G = .ok (.int (cellZ ns 5)) G := fun G => cell_eq ns 5 (by decide) G
  generalize cellZ ns 3 = z3 at *
  generalize cellZ ns 4 = z4 at *
  generalize cellZ ns 5 = z5 at *
  generalize scr ns = S at *
  have mw : ∀ G, fMod (.val (.int z3)) (.val (.int w)) G = .ok (.val (.int (z3 % w))) G := fun G => fMod_int (by omega)
  have fw : ∀ G, fFdiv (.val (.int z3)) (.val (.int w)) G = .ok (.val (.int (z3 / w))) G := fun G => fFdiv_int (by omega) (by
    rw [Int.natAbs_natCast]
    have := Nat.log2_le_self w
    omega)
  have mh : ∀ G, fMod (.val (.int (z3 / w))) (.val (.int h)) G = .ok (.val (.int (z3 / w % h))) G := fun G => fMod_int (by omega)
  obtain ⟨a, ha0, haw⟩ := Sy.mod_nat z3 hw
  have ha : z3 % (w : Int) = (a : Int) := ha0
  obtain ⟨b, hb0, hbh⟩ := Sy.mod_nat (z3 / w) hh
  have hb : z3 / (w : Int) % (h : Int) = (b : Int) := hb0
  rw [ha] at mw
  rw [hb] at mh
  have m1 : ∀ G, fMod (.val (.int z4)) (.val (.int ((w : Int) - (a : Int)))) G = .ok (.val (.int (z4 % ((w : Int) - (a : Int))))) G := fun G => fMod_int (by omega)
  have f24 : ∀ G, fFdiv (.val (.int z4)) (.val (.int 24)) G = .ok (.val (.int (z4 / 24))) G := fun G => fFdiv_int (by decide) (by decide)
  have m2 : ∀ G, fMod (.val (.int (z4 / 24))) (.val (.int ((h : Int) - (b : Int)))) G = .ok (.val (.int (z4 / 24 % ((h : Int) - (b : Int))))) G := fun G => fMod_int (by omega)
  generalize z4 % ((w : Int) - (a : Int)) = x1 at *
  generalize z4 / 24 % ((h : Int) - (b : Int)) = x2 at *
  generalize z4 / 24 = v4 at *
  generalize z3 / (w : Int) = v3 at *
  have m3 : ∀ G, fMod (.val (.int z5)) (.val (.int 3)) G = .ok (.val (.int (z5 % 3))) G := fun G => fMod_int (by decide)
  have k1 := Keeps.app G [GO.lst [.int (a : Int), .int (b : Int), .int (1 + x1), .int (1 + x2)]]
  have e1 := last_get G (.lst [.int (a : Int), .int (b : Int), .int (1 + x1), .int (1 + x2)])
  have s10 : sSet 10 (mLst (mCons (mVar 7) (mCons (mVar 11) (mCons (mBin fAdd (mC (.int 1)) (mBin fMod (mVar 8) (mBin fSub (mVar 1) (mVar 7)))) (mCons (mBin fAdd (mC (.int 1)) (mBin fMod (mBin fFdiv (mVar 8) (mC (.int 24))) (mBin fSub (mVar 2) (mVar 11)))) mNil))))) [some S, some (.int w), some (.int h), none, none, some (.int z3), none, some (.int a), some (.int z4), none, none, some (.int b)] G = .nx [some S, some (.int w), some (.int h), none, none, some (.int z3), none, some (.int a), some (.int z4), none, some (.loc G.length), some (.int b)] (G ++ [GO.lst [.int (a : Int), .int (b : Int), .int (1 + x1), .int (1 + x2)]]) := by simp [m1, m2, f24]
  generalize hG1 : G ++ [GO.lst [W.int (a : Int), .int (b : Int), .int (1 + x1), .int (1 + x2)]] = G1 at *
  have hbeg : ∀ rest : MS, sSeq (sSet 5 (mCall m_law_cell_at [] (mCons (mVar 0) (mCons (mC (.int 3)) mNil)))) (sSeq (sSet 7 (mBin fMod (mVar 5) (mVar 1))) (sSeq (sSet 11 (mBin fMod (mBin fFdiv (mVar 5) (mVar 1)) (mVar 2))) (sSeq (sSet 8 (mCall m_law_cell_at [] (mCons (mVar 0) (mCons (mC (.int 4)) mNil)))) (sSeq (sSet 10 (mLst (mCons (mVar 7) (mCons (mVar 11) (mCons (mBin fAdd (mC (.int 1)) (mBin fMod (mVar 8) (mBin fSub (mVar 1) (mVar 7)))) (mCons (mBin fAdd (mC (.int 1)) (mBin fMod (mBin fFdiv (mVar 8) (mC (.int 24))) (mBin fSub (mVar 2) (mVar 11)))) mNil)))))) (sSeq (sSet 4 (mCall m_law_cell_at [] (mCons (mVar 0) (mCons (mC (.int 5)) mNil)))) rest))))) [some S, some (.int w), some (.int h), none, none, none, none, none, none, none, none, none] G = rest [some S, some (.int w), some (.int h), none, some (.int z5), some (.int z3), none, some (.int a), some (.int z4), none, some (.loc G.length), some (.int b)] G1 := fun rest => by
    refine (seq_nx (τ1 := [some S, some (.int w), some (.int h), none, none, some (.int z3), none, none, none, none, none, none]) (G1 := G) (by simp [cl3])).trans ?_
    refine (seq_nx (τ1 := [some S, some (.int w), some (.int h), none, none, some (.int z3), none, some (.int a), none, none, none, none]) (G1 := G) (by simp [mw])).trans ?_
    refine (seq_nx (τ1 := [some S, some (.int w), some (.int h), none, none, some (.int z3), none, some (.int a), none, none, none, some (.int b)]) (G1 := G) (by simp [fw, mh])).trans ?_
    refine (seq_nx (τ1 := [some S, some (.int w), some (.int h), none, none, some (.int z3), none, some (.int a), some (.int z4), none, none, some (.int b)]) (G1 := G) (by simp [cl4])).trans ?_
    refine (seq_nx s10).trans ?_
    exact seq_nx (by simp [cl5])
  by_cases h1 : z5 % 3 = 1
  · have f3 : ∀ G, fFdiv (.val (.int z5)) (.val (.int 3)) G = .ok (.val (.int (z5 / 3))) G := fun G => fFdiv_int (by decide) (by decide)
    have m4 : ∀ G, fMod (.val (.int (z5 / 3))) (.val (.int 4)) G = .ok (.val (.int (z5 / 3 % 4))) G := fun G => fMod_int (by decide)
    have f96 : ∀ G, fFdiv (.val (.int z5)) (.val (.int 96)) G = .ok (.val (.int (z5 / 96))) G := fun G => fFdiv_int (by decide) (by decide)
    have hp : ∀ G, fPow (.val (.int 10)) (.val (.int 20)) G = .ok (.val (.int 100000000000000000000)) G := fun _ => rfl
    have mb : ∀ G, fMod (.val (.int (z5 / 96))) (.val (.int 100000000000000000000)) G = .ok (.val (.int (z5 / 96 % 100000000000000000000))) G := fun G => fMod_int (by decide)
    have f12 : ∀ G, fFdiv (.val (.int z5)) (.val (.int 12)) G = .ok (.val (.int (z5 / 12))) G := fun G => fFdiv_int (by decide) (by decide)
    have m8 : ∀ G, fMod (.val (.int (z5 / 12))) (.val (.int 8)) G = .ok (.val (.int (z5 / 12 % 8))) G := fun G => fMod_int (by decide)
    obtain ⟨k, hk0, hk4⟩ := Sy.mod_nat (z5 / 3) (show 0 < 4 by decide)
    have hk : z5 / 3 % 4 = (k : Int) := hk0
    obtain ⟨j, hj0, hj8⟩ := Sy.mod_nat (z5 / 12) (show 0 < 8 by decide)
    have hj : z5 / 12 % 8 = (j : Int) := hj0
    rw [hk] at m4
    rw [hj] at m8
    generalize z5 / 3 = v3' at *
    generalize z5 / 12 = v12 at *
    generalize z5 / 96 % 100000000000000000000 = F at *
    generalize z5 / 96 = v96 at *
    obtain ⟨e, he⟩ : ∃ e : Int, ∀ G, fIx (.tmp [.int w, .int h, .int ((w : Int) - (a : Int) + 1), .int ((h : Int) - (b : Int) + 1)]) (.val (.int (k : Nat))) G = .ok (.val (.int e)) G := by
      rcases (show k = 0 ∨ k = 1 ∨ k = 2 ∨ k = 3 by omega) with rfl | rfl | rfl | rfl
      · exact ⟨_, fun G => fIx_tmp (k := 0) rfl⟩
      · exact ⟨_, fun G => fIx_tmp (k := 1) rfl⟩
      · exact ⟨_, fun G => fIx_tmp (k := 2) rfl⟩
      · exact ⟨_, fun G => fIx_tmp (k := 3) rfl⟩
    have hmb : ∀ (q : Bool) G, fMulB (.val (.int 2)) (.val (.bl q)) G = .ok (.val (.int (2 * b2i q))) G := fun _ _ => rfl
    have k2 := Keeps.app G1 [GO.lst [.int 1], .lst [.int (-1), .int e, .int (0 - 2 * b2i (decide ((k : Int) < 2))), .int (25 + F), .bl true, .non, .str "1", .loc G1.length]]
    have o2 : (G1 ++ [GO.lst [.int 1], .lst [.int (-1), .int e, .int (0 - 2 * b2i (decide ((k : Int) < 2))), .int (25 + F), .bl true, .non, .str "1", .loc G1.length]])[G1.length]? = some (.lst [.int 1]) := by rw [get_top0]; rfl
    have o3 : (G1 ++ [GO.lst [.int 1], .lst [.int (-1), .int e, .int (0 - 2 * b2i (decide ((k : Int) < 2))), .int (25 + F), .bl true, .non, .str "1", .loc G1.length]])[G1.length + 1]? = some (.lst [.int (-1), .int e, .int (0 - 2 * b2i (decide ((k : Int) < 2))), .int (25 + F), .bl true, .non, .str "1", .loc G1.length]) := by rw [get_topk]; rfl
    have s9 : sSet 9 lpOdd [some S, some (.int w), some (.int h), some (.int (k : Nat)), some (.int z5), some (.int z3), some (.int F), some (.int a), some (.int z4), none, some (.loc G.length), some (.int b)] G1 = .nx [some S, some (.int w), some (.int h), some (.int (k : Nat)), some (.int z5), some (.int z3), some (.int F), some (.int a), some (.int z4), some (.loc (G1.length + 1)), some (.loc G.length), some (.int b)] (G1 ++ [GO.lst [.int 1], .lst [.int (-1), .int e, .int (0 - 2 * b2i (decide ((k : Int) < 2))), .int (25 + F), .bl true, .non, .str "1", .loc G1.length]]) := by
      generalize (k : Int) = K at *
      simp [he, hmb]
    generalize hq : b2i (decide ((k : Int) < 2)) = q at *
    generalize hG2 : G1 ++ [GO.lst [.int 1], .lst [.int (-1), .int e, .int (0 - 2 * q), .int (25 + F), .bl true, .non, .str "1", .loc G1.length]] = G2 at *
    have hl1 : G.length < G1.length := by rw [← hG1]; simp
    have e2 := k2.get e1
    have goal : ∀ u, [W.int (-1), .int e, .int (0 - 2 * q), .int (25 + F), .bl true, .non, .str "1", .loc G1.length][j]? = some u → (∀ us, ItemK (G2.set G.length (.lst us)) u) → ∃ (L : Nat) (G' : GH) (w0 w1 w2 w3 : W), m_law_part [S, .int w, .int h] G = .ok (.loc L) G' ∧ Sy.Keeps G G' ∧ G'[L]? = some (.lst [w0, w1, w2, w3]) ∧ PartK G' w0 w1 w2 w3 := by
      intro u hu hK
      obtain ⟨w0, w1, w2, w3, hset, hP⟩ := part_set (hK ([W.int (a : Int), .int (b : Int), .int (1 + x1), .int (1 + x2)].set k u)) (a : Int) (b : Int) (1 + x1) (1 + x2) hk4
      have hix := fIx_loc (k := j) o3 hu
      have hput := sPut_ok (mo := mVar 10) (mi := mVar 3) (m := mBin fIx (mVar 9) (mBin fMod (mBin fFdiv (mVar 4) (mC (.int 12))) (mC (.int 8)))) (τ := [some S, some (.int w), some (.int h), some (.int (k : Nat)), some (.int z5), some (.int z3), some (.int F), some (.int a), some (.int z4), some (.loc (G1.length + 1)), some (.loc G.length), some (.int b)]) (G := G2) (G1 := G2) (G2 := G2) (G3 := G2) (w := u) (n := G.length) (k := k) (us := [W.int (a : Int), .int (b : Int), .int (1 + x1), .int (1 + x2)]) (by simp [f12, m8, hix]) rfl rfl e2 (by simpa using hk4)
      have e5 : (G2.set G.length (.lst ([W.int (a : Int), .int (b : Int), .int (1 + x1), .int (1 + x2)].set k u)))[G.length]? = some (.lst ([W.int (a : Int), .int (b : Int), .int (1 + x1), .int (1 + x2)].set k u)) := set_at e2
      refine ⟨G.length, _, w0, w1, w2, w3, mDef_ok [some S, some (.int w), some (.int h), none, none, none, none, none, none, none, none, none] ?_, (k1.trans k2).set (Nat.le_refl _) _, by rw [e5, hset], hP⟩
      unfold b_law_part
      refine (hbeg _).trans ?_
      refine (seq_nx (τ1 := [some S, some (.int w), some (.int h), some (.int (k : Nat)), some (.int z5), some (.int z3), some (.int F), some (.int a), some (.int z4), some (.loc (G1.length + 1)), some (.loc G.length), some (.int b)]) (G1 := G2.set G.length (.lst ([W.int (a : Int), .int (b : Int), .int (1 + x1), .int (1 + x2)].set k u))) ((if_yes (G1 := G1) (by simp [m3, h1])).trans ?_)).trans ?_
      · refine (seq_nx (τ1 := [some S, some (.int w), some (.int h), some (.int (k : Nat)), some (.int z5), some (.int z3), none, some (.int a), some (.int z4), none, some (.loc G.length), some (.int b)]) (G1 := G1) (by simp [f3, m4])).trans ?_
        refine (seq_nx (τ1 := [some S, some (.int w), some (.int h), some (.int (k : Nat)), some (.int z5), some (.int z3), some (.int F), some (.int a), some (.int z4), none, some (.loc G.length), some (.int b)]) (G1 := G1) (by simp [f96, hp, mb])).trans ?_
        exact (seq_nx s9).trans hput
      · simp
    have hone : ∀ us, (G2.set G.length (.lst us))[G1.length]? = some (.lst [.int 1]) := fun us => by
      rw [List.getElem?_set_ne (by omega)]
      exact o2
    rcases (show j = 0 ∨ j = 1 ∨ j = 2 ∨ j = 3 ∨ j = 4 ∨ j = 5 ∨ j = 6 ∨ j = 7 by omega) with rfl | rfl | rfl | rfl | rfl | rfl | rfl | rfl
    · exact goal _ rfl fun _ => .num _
    · exact goal _ rfl fun _ => .num _
    · exact goal _ rfl fun _ => .num _
    · exact goal _ rfl fun _ => .num _
    · exact goal _ rfl fun _ => .odd (e := .bool true) rfl rfl rfl
    · exact goal _ rfl fun _ => .odd (e := .none) rfl rfl rfl
    · exact goal _ rfl fun _ => .odd (e := .str "1") rfl rfl (toD_str (n := 7) (by decide +kernel))
    · refine goal _ rfl fun us => .odd (e := .list [.int 1]) (okW_list (hone us)) rfl ?_
      have e3 : rdw (G2.set G.length (.lst us)) (.loc G1.length) = some [.int 1] := by simp [hone us]
      show ((rdw (G2.set G.length (.lst us)) (.loc G1.length)).bind fun ws => (mapO (toD 7 (G2.set G.length (.lst us))) ws).map PyData.list) = _
      rw [e3]
      rfl
  · refine ⟨G.length, G1, _, _, _, _, mDef_ok [some S, some (.int w), some (.int h), none, none, none, none, none, none, none, none, none] ?_, k1, e1, .four _ _ _ _⟩
    unfold b_law_part
    refine (hbeg _).trans ?_
    exact (seq_no (G1 := G1) (by simp [m3, h1])).trans (by simp)
end Lk09
set_option Elab.async false
set_option linter.all false
set_option maxRecDepth 100000
set_option maxHeartbeats 4000000
namespace Lk09
open PySem PySem.Spec PyProof.Rows L2 Sy
/-! each k-th place -/
theorem dv {k q r : Nat} (hk : 0 < k) (hr : r < k) : (k * q + r) / k = q := by rw [Nat.mul_add_div hk, Nat.div_eq_of_lt hr, Nat.add_zero]
def kth (k n : Nat) : List Nat := (List.range n).filter fun i => decide (i % k = 0)
theorem kth_range {k : Nat} (hk : 0 < k) (n : Nat) : (List.range ((n + k - 1) / k)).map (fun j => k * j) = kth k n := by
  induction n with
  | zero =>
    rw [Nat.div_eq_of_lt (by omega)]
    rfl
  | succ n ih =>
    unfold kth at ih ⊢
    rw [List.range_succ, List.filter_append, ← ih]
    have hd := Nat.div_add_mod n k
    have hm := Nat.mod_lt n hk
    generalize n / k = q at *
    by_cases hr : n % k = 0
    · have e1 : (n + 1 + k - 1) / k = q + 1 := by
        rw [show n + 1 + k - 1 = k * (q + 1) + 0 by rw [Nat.mul_succ]; omega]
        exact dv hk hk
      have e2 : (n + k - 1) / k = q := by
        rw [show n + k - 1 = k * q + (k - 1) by omega]
        exact dv hk (by omega)
      rw [e1, e2, List.range_succ, List.map_append, List.filter_cons, decide_eq_true hr]
      rw [hr, Nat.add_zero] at hd
      simp [hd]
    · have e1 : (n + 1 + k - 1) / k = q + 1 := by
        rw [show n + 1 + k - 1 = k * (q + 1) + n % k by rw [Nat.mul_succ]; omega]
        exact dv hk hm
      have e2 : (n + k - 1) / k = q + 1 := by
        rw [show n + k - 1 = k * (q + 1) + (n % k - 1) by rw [Nat.mul_succ]; omega]
        exact dv hk (by omega)
      rw [e1, e2, List.filter_cons, decide_eq_false hr]
      simp
theorem slice_kth {k : Nat} (hk : 0 < k) (n : Nat) : sliceRange 0 (n : Int) (k : Int) = kth k n := by
  rw [← kth_range hk]
  unfold sliceRange
  have h1 : (k : Int) > 0 := by omega
  dsimp only
  rw [if_pos h1]
  have hc : (if (0 : Int) < (n : Int) then ((n : Int) - 0 + (k : Int) - 1) / (k : Int) else 0).toNat = (n + k - 1) / k := by
    by_cases hn : (0 : Int) < (n : Int)
    · rw [if_pos hn, show (n : Int) - 0 + (k : Int) - 1 = ((n + k - 1 : Nat) : Int) by omega]
      rw [← Int.natCast_ediv, Int.toNat_natCast]
    · rw [if_neg hn]
      have : n = 0 := by omega
      subst this
      rw [Nat.div_eq_of_lt (by omega)]
      rfl
  rw [hc]
  refine List.map_congr_left fun j _ => ?_
  rw [Int.zero_add, ← Int.natCast_mul, Int.toNat_natCast]
theorem stepOf_map {α β : Type} (f : α → β) (xs : List α) (k : Int) : stepOf (xs.map f) k = (stepOf xs k).map f := by
  unfold stepOf
  rw [List.length_map, List.map_filterMap]
  refine congrArg (fun g => List.filterMap g _) (funext fun i => ?_)
  rw [List.getElem?_map]
theorem stepOf_range {α : Type} {k : Nat} (hk : 0 < k) (n : Nat) (f : Nat → α) : stepOf ((List.range n).map f) (k : Int) = (kth k n).map f := by
  rw [stepOf_map]
  congr 1
  unfold stepOf
  rw [List.length_range, slice_kth hk]
  have h : ∀ is : List Nat, (∀ i ∈ is, i < n) → is.filterMap (fun i => (List.range n)[i]?) = is := by
    intro is
    induction is with
    | nil => intro _; rfl
    | cons i is ih =>
      intro hi
      rw [List.filterMap_cons, List.getElem?_range (hi i List.mem_cons_self)]
      dsimp only
      rw [ih fun j hj => hi j (List.mem_cons_of_mem _ hj)]
  exact h _ fun i hi => List.mem_range.mp (List.mem_filter.mp hi).1
theorem kth_succ (k n : Nat) : kth k (n + 1) = kth k n ++ if n % k = 0 then [n] else [] := by
  unfold kth
  rw [List.range_succ, List.filter_append, List.filter_cons]
  by_cases h : n % k = 0
  · simp [h]
  · simp [h]
theorem kth_pos {k n : Nat} (hn : 0 < n) : 0 < (kth k n).length := by
  refine List.length_pos_iff.mpr fun e => ?_
  have : (0 : Nat) ∈ kth k n := List.mem_filter.mpr ⟨List.mem_range.mpr hn, by simp⟩
  rw [e] at this
  cases this
theorem kth_le (k n : Nat) : (kth k n).length ≤ n := by
  have := List.length_filter_le (fun i => decide (i % k = 0)) (List.range n)
  rwa [List.length_range] at this
theorem kth_lt {k n i : Nat} (h : i ∈ kth k n) : i < n := List.mem_range.mp (List.mem_filter.mp h).1
/-- a picture that is thinned -/
def thinP (p : List (List Int)) (wide a d : Nat) : List (List Int) := (kth d p.length).map fun y => (kth a wide).map fun x => cellP p y x
theorem thin_good {p : List (List Int)} {wide a d : Nat} (g : Good p wide) : Good (thinP p wide a d) (kth a wide).length := by
  have h1 := kth_pos (k := d) g.h0
  have h2 := kth_le d p.length
  have h3 := kth_pos (k := a) g.w0
  have h4 := kth_le a wide
  have := g.h1
  have := g.w1
  refine ⟨by unfold thinP; rw [List.length_map]; exact h1, by unfold thinP; rw [List.length_map]; omega, h3, by omega, fun r hr => ?_, fun r hr c hc => ?_⟩
  · obtain ⟨y, _, rfl⟩ := List.mem_map.mp hr
    rw [List.length_map]
  · obtain ⟨y, hy, rfl⟩ := List.mem_map.mp hr
    obtain ⟨x, hx, rfl⟩ := List.mem_map.mp hc
    exact cellP_ok g (kth_lt hy) (kth_lt hx)
theorem thin_steps {p : List (List Int)} {wide a d : Nat} (g : Good p wide) (ha : 0 < a) (hd : 0 < d) : (stepOf p (d : Int)).map (fun r => stepOf r (a : Int)) = thinP p wide a d := by
  conv => lhs; rw [pic_grid g]
  unfold grid
  rw [stepOf_range hd, List.map_map]
  unfold thinP
  refine List.map_congr_left fun y _ => ?_
  show stepOf ((List.range wide).map fun x => cellP p y x) (a : Int) = _
  rw [stepOf_range ha]
/-! steps -/
def lowW : W → Bool
  | .int z => decide (z < 1)
  | _ => true
noncomputable abbrev nsC : M Bool := (mOr (mNot (mTru (mBi fIsi (mConsT (mVar 2) (mConsT (mC (.ty "int")) mNilT))))) (mOr (mTru (mBi fIsi (mConsT (mVar 2) (mConsT (mC (.ty "bool")) mNilT)))) (mB (mBin fLt (mVar 2) (mC (.int 1))))))
theorem ns_cond {G : GH} {x y w : W} (h : okW G w) : nsC [some x, some y, some w] G = .ok (lowW w) G := by
  cases w with
  | int i => simp [lowW]
  | bl b => simp [lowW]
  | non => simp [lowW]
  | str z => simp [lowW]
  | tup ws => simp [lowW]
  | loc n =>
    have e : ∃ a, tyOf G (.val (.loc n)) = some a ∧ subTy a "int" = some false := by
      unfold okW tyOf at h
      unfold tyOf
      dsimp only at h ⊢
      cases e : G[n]? with
      | none => rw [e] at h; cases h
      | some o =>
        rw [e] at h
        cases o with
        | lst ws => exact ⟨_, rfl, by decide⟩
        | dK ws => exact ⟨_, rfl, by decide⟩
        | dT ws => exact ⟨_, rfl, by decide⟩
        | ins c fs => cases h
        | tb k q => cases h
    obtain ⟨a, e1, e2⟩ := e
    have := isi_of e1 e2
    simp [lowW, this]
  | frl ws =>
    have := isi_of (G := G) (t := .val (.frl ws)) (a := "list") (b := "int") (r := false) rfl (by decide)
    simp [lowW, this]
  | ty n => cases h
  | cls n => cases h
  | exn c a => cases h
theorem need_steps_eq {G : GH} {w u : W} (h1 : okW G w) (h2 : okW G u) : m_need_steps [w, u] G = if lowW w || lowW u then .ex 2 [] G else .ok .non G := by
  have c1 := ns_cond (x := w) (y := u) h1
  have c2 := ns_cond (x := w) (y := u) h2
  have hmi : miA (mTup (mCons (mVar 0) (mCons (mVar 1) mNil))) [some w, some u, none] G = .ok ([w, u], []) G := by simp [miA_at]
  cases e1 : lowW w with
  | true =>
    rw [e1] at c1
    refine mDef_ex [some w, some u, none] (τ1 := [some w, some u, some w]) ?_
    unfold b_need_steps
    rw [sFor_at, hmi, R.toS_ok]
    exact forL_ex still_nil rfl ((if_yes (G1 := G) c1).trans (by simp))
  | false =>
    rw [e1] at c1
    cases e2 : lowW u with
    | true =>
      rw [e2] at c2
      refine mDef_ex [some w, some u, none] (τ1 := [some w, some u, some u]) ?_
      unfold b_need_steps
      rw [sFor_at, hmi, R.toS_ok, forL_nx still_nil rfl (if_no (G1 := G) c1)]
      exact forL_ex still_nil rfl ((if_yes (G1 := G) c2).trans (by simp))
    | false =>
      rw [e2] at c2
      refine mDef_nx [some w, some u, none] (τ1 := [some w, some u, some u]) ?_
      unfold b_need_steps
      rw [sFor_at, hmi, R.toS_ok, forL_nx still_nil rfl (if_no (G1 := G) c1), forL_nx still_nil rfl (if_no (G1 := G) c2), forL_end still_nil]
theorem low_nat {k : Nat} (hk : 0 < k) : lowW (.int k) = false := by
  show decide ((k : Int) < 1) = false
  rw [decide_eq_false (by omega)]
theorem fStepL_loc {G : GH} {n k : Nat} {ws : List W} (h : G[n]? = some (.lst ws)) (hk : 0 < k) : fStepL (.val (.loc n)) (some (k : Int)) G = .ok (.tmp (stepOf ws (k : Int))) G := by
  have e1 : rdl (.val (.loc n)) G = some ws := by simp [h]
  unfold fStepL
  rw [e1]
  dsimp only
  rw [if_pos (by omega)]
theorem thinned_good {G : GH} {o a d : Nat} {p : List (List Int)} {wide : Nat} (g : Good p wide) (hp : PicAt G o p) (ha : 0 < a) (hd : 0 < d) :
    ∃ (n : Nat) (G' : GH), m_thinned [.loc o, .int a, .int d] G = .ok (.loc n) G' ∧ NewP G G' n (thinP p wide a d) := by
  have n1 : m_need_picture [.loc o] G = .ok .non G := by obtain ⟨ms, r⟩ := hp; exact need_picture_good r g
  have n2 := need_steps_eq (okW_int G a) (okW_int G d)
  rw [low_nat ha, low_nat hd] at n2
  obtain ⟨ms, r⟩ := hp
  have hml : ms.length = p.length := by have := r.len; rwa [List.length_map] at this
  have hh := g.h1
  have hs := fStepL_loc r.top hd
  rw [stepOf_map] at hs
  have hlen : (stepOf ms (d : Int)).length = (stepOf p (d : Int)).length := by
    unfold stepOf
    rw [hml]
    exact picks_len hml _
  have hpr : Paired (fun m row => G[m]? = some (.lst (iW row))) (stepOf ms (d : Int)) (stepOf p (d : Int)) := by
    unfold stepOf
    rw [hml]
    exact paired_picks hml (fun i m row e1 e2 => paired_get r.row i m _ e1 (by rw [List.getElem?_map, e2]; rfl)) _
  have hc := compF_allocP (src := []) (g := gN 3) (c := mYes) (e := mStepL (mVar 3) (mP (mVar 1))) (τ := [some (.loc o), some (.int a), some (.int d), none]) (G := G) (ws := (stepOf ms (d : Int)).map W.loc) (ys := stepOf p (d : Int)) (fun row => iW (stepOf row (a : Int))) (fun xs => still_nil) (paired_map (paired_imp hpr fun m row e xs => ⟨_, rfl, rfl, by
    have h1 := fStepL_loc ((Keeps.app G xs).get e) ha
    rw [show iW row = row.map W.int from rfl, stepOf_map] at h1
    rw [show iW (stepOf row (a : Int)) = (stepOf row (a : Int)).map W.int from rfl]
    generalize (stepOf row (a : Int)).map W.int = R at *
    generalize (a : Int) = A at *
    simp [h1]⟩))
  have hnew := newP_laid G ((stepOf p (d : Int)).map fun r => stepOf r (a : Int))
  have hl2 : laidR G (((stepOf p (d : Int)).map fun r => stepOf r (a : Int)).map iW) = G ++ (stepOf p (d : Int)).map (fun row => GO.lst (iW (stepOf row (a : Int)))) ++ [.lst (locs G.length (stepOf p (d : Int)).length)] := by
    unfold laidR
    rw [List.length_map, List.length_map, List.map_map, List.map_map, List.append_assoc]
    rfl
  rw [List.length_map, hl2, thin_steps g ha hd] at hnew
  refine ⟨_, _, mDef_ok [some (.loc o), some (.int a), some (.int d), none] ?_, hnew⟩
  unfold b_thinned
  refine (seq_nx (τ1 := [some (.loc o), some (.int a), some (.int d), none]) (G1 := G) (by simp [n1])).trans ?_
  refine (seq_nx (τ1 := [some (.loc o), some (.int a), some (.int d), none]) (G1 := G) (by simp [n2])).trans ?_
  have hl16 : ((stepOf ms (d : Int)).map W.loc).length ≤ 16777216 := by
    have := step_len_le ms (k := (d : Int)) (by omega)
    rw [List.length_map]
    omega
  have hxl : ((stepOf p (d : Int)).map (fun row => GO.lst (iW (stepOf row (a : Int))))).length = (stepOf p (d : Int)).length := by simp
  generalize (stepOf p (d : Int)).map (fun row => GO.lst (iW (stepOf row (a : Int)))) = X at *
  generalize (stepOf p (d : Int)).length = K at *
  generalize (stepOf ms (d : Int)).map W.loc = L at *
  generalize (d : Int) = D at *
  simp [mComp_at, miA_at, hs, hl16, wipeS, hc, hxl]
theorem thinned_bad1 {G : GH} {w : W} (h : m_is_picture [w] G = .ok (.bl false) G) (x y : W) : m_thinned [w, x, y] G = .ex 1 [] G := by
  have h1 := need_picture_bad h
  refine mDef_ex [some w, some x, some y, none] (τ1 := [some w, some x, some y, none]) ?_
  unfold b_thinned
  exact seq_ex (by simp [h1])
theorem thinned_low {G : GH} {o : Nat} {w u : W} {p : List (List Int)} {wide : Nat} (g : Good p wide) (hp : PicAt G o p) (h1 : okW G w) (h2 : okW G u) (hl : (lowW w || lowW u) = true) : m_thinned [.loc o, w, u] G = .ex 2 [] G := by
  have n1 : m_need_picture [.loc o] G = .ok .non G := by obtain ⟨ms, r⟩ := hp; exact need_picture_good r g
  have n2 := need_steps_eq h1 h2
  rw [hl, if_pos rfl] at n2
  refine mDef_ex [some (.loc o), some w, some u, none] (τ1 := [some (.loc o), some w, some u, none]) ?_
  unfold b_thinned
  refine (seq_nx (τ1 := [some (.loc o), some w, some u, none]) (G1 := G) (by simp [n1])).trans ?_
  exact seq_ex (by simp [n2])
/-! the due one -/
theorem law_thin_eq {G : GH} {o a d : Nat} {p : List (List Int)} {wide : Nat} (g : Good p wide) (hp : PicAt G o p) (ha : 0 < a) (hd : 0 < d) :
    ∃ (n : Nat) (G' : GH), m_law_thin [.loc o, .int a, .int d] G = .ok (.loc n) G' ∧ NewP G G' n (thinP p wide a d) := by
  have hl := pic_len hp
  obtain ⟨m0, w1, w2, _⟩ := pic_wide hp g
  have hh := g.h1
  have hw := g.w1
  have hir := iterR_nat p.length (by omega) (G ++ [GO.lst []])
  have hlen2 := pic_len (hp.keep (Keeps.app G [GO.lst []]))
  have hmi : miR (mCons (mBi fLen (mConsT (mVar 0) mNilT)) mNil) [some (.loc o), some (.int a), some (.int d), some (.loc G.length), none, none] (G ++ [.lst []]) = .ok (rangeW 0 p.length, []) (G ++ [.lst []]) := by
    generalize rangeW 0 p.length = R at *
    simp [miR_at, hlen2, hir]
  have hmod : ∀ (y k : Nat) (G : GH), 0 < k → fMod (.val (.int y)) (.val (.int k)) G = .ok (.val (.int (y % k : Nat))) G := fun y k G hk => by
    rw [fMod_int (by omega), ← Int.natCast_emod]
  have hloop : ∃ (s4 : Option W) (G' : GH), sFor (miR (mCons (mBi fLen (mConsT (mVar 0) mNilT)) mNil)) (gN 4) (sIf (mB (mBin fEq (mBin fMod (mVar 4) (mVar 2)) (mC (.int 0)))) (sDrop (mMtF isLst fApp (mVar 3) (mCons (mComp (miR (mCons (mBi fLen (mConsT (mBin fIx (mVar 0) (mC (.int 0))) mNilT)) mNil)) (gN 5) (mB (mBin fEq (mBin fMod (mVar 5) (mVar 1)) (mC (.int 0)))) (mBin fIx (mBin fIx (mVar 0) (mVar 4)) (mVar 5)) [5]) mNil))) sNext) [some (.loc o), some (.int a), some (.int d), some (.loc G.length), none, none] (G ++ [.lst []]) = .nx [some (.loc o), some (.int a), some (.int d), some (.loc G.length), s4, none] G' ∧ NewP G G' G.length (thinP p wide a d) := by
    rw [sFor_at, hmi, R.toS_ok]
    refine forL_run (fun i τ G' => (∃ s4 : Option W, τ = [some (.loc o), some (.int a), some (.int d), some (.loc G.length), s4, none]) ∧ NewP G G' G.length ((kth d i).map fun y => (kth a wide).map fun x => cellP p y x))
      (fun z => ∃ (s4 : Option W) (G' : GH), z = .nx [some (.loc o), some (.int a), some (.int d), some (.loc G.length), s4, none] G' ∧ NewP G G' G.length (thinP p wide a d)) ⟨⟨none, rfl⟩, newP_nil G⟩ ?_ ?_
    · rintro i w τ G1 hwi ⟨⟨t4, rfl⟩, h1⟩
      obtain ⟨hi, rfl⟩ := rangeW_get hwi
      rw [Int.zero_add]
      refine ⟨still_nil, [some (.loc o), some (.int a), some (.int d), some (.loc G.length), some (.int (i : Nat)), none], rfl, ?_⟩
      have q1 := hmod i d G1 hd
      by_cases hz : i % d = 0
      · have hp1 := hp.keep h1.keep
        obtain ⟨m1, y1, y2, _⟩ := pic_wide hp1 g
        obtain ⟨m, hm, hrow⟩ := hp1.rowAt g hi
        have hm' := hm _ rfl
        have hin := compF_filterP (src := []) (g := gN 5) (c := mB (mBin fEq (mBin fMod (mVar 5) (mVar 1)) (mC (.int 0)))) (e := mBin fIx (mBin fIx (mVar 0) (mVar 4)) (mVar 5)) (τ := [some (.loc o), some (.int a), some (.int d), some (.loc G.length), some (.int (i : Nat)), none]) (G := G1) (ws := rangeW 0 wide) (ys := List.range wide) (fun x => decide (x % a = 0)) (fun x => W.int (cellP p i x)) still_nil (paired_of (by simp) fun x w y e1 e2 => by
          obtain ⟨hx, rfl⟩ := rangeW_get e1
          rw [List.getElem?_range hx] at e2
          cases e2
          rw [Int.zero_add]
          have q2 := hmod x a G1 ha
          have hcell := fIx_loc hrow (cell_at_row g hi hx)
          refine ⟨[some (.loc o), some (.int a), some (.int d), some (.loc G.length), some (.int (i : Nat)), some (.int (x : Nat))], rfl, ?_, fun _ => ?_⟩
          · have e5 : decide (((x % a : Nat) : Int) = 0) = decide (x % a = 0) := decide_eq_decide.mpr ⟨fun z => by omega, fun z => by omega⟩
            rw [← e5]
            generalize ((x % a : Nat) : Int) = X at *
            simp [q2]
          · generalize cellP p i x = v at *
            simp [hm', hcell])
        rw [show ((List.range wide).filter fun x => decide (x % a = 0)).map (fun x => W.int (cellP p i x)) = iW ((kth a wide).map fun x => cellP p i x) by
          unfold iW kth
          rw [List.map_map]
          rfl] at hin
        have hir2 := iterR_nat wide (by omega) G1
        have hl16 : (rangeW 0 wide).length ≤ 16777216 := by rw [rangeW_len]; omega
        obtain ⟨G2, e2, h2⟩ := h1.app (i := 3) (r := (kth a wide).map fun x => cellP p i x) (S := mComp (miR (mCons (mBi fLen (mConsT (mBin fIx (mVar 0) (mC (.int 0))) mNilT)) mNil)) (gN 5) (mB (mBin fEq (mBin fMod (mVar 5) (mVar 1)) (mC (.int 0)))) (mBin fIx (mBin fIx (mVar 0) (mVar 4)) (mVar 5)) [5]) (τ := [some (.loc o), some (.int a), some (.int d), some (.loc G.length), some (.int (i : Nat)), none]) (G2 := G1) rfl (by
          generalize iW ((kth a wide).map fun x => cellP p i x) = X at *
          generalize rangeW 0 wide = R at *
          rw [mComp_at, miR_at]
          simp [y1, y2, hir2, hl16, wipeS, hin]) (Keeps.refl _) (by
          rw [List.length_map]
          have := kth_le d i
          omega)
        refine turn_of ((if_yes (G1 := G1) ?_).trans e2) ⟨⟨_, rfl⟩, ?_⟩
        · rw [hz] at q1
          simp [q1]
        · rw [kth_succ, if_pos hz, List.map_append]
          exact h2
      · refine turn_of (G := G1) (if_no (G1 := G1) ?_) ⟨⟨_, rfl⟩, ?_⟩
        · have hz2 : ¬ (((i % d : Nat) : Int) = 0) := by omega
          generalize ((i % d : Nat) : Int) = X at *
          simp [q1, hz2]
        · rw [kth_succ, if_neg hz, List.append_nil]
          exact h1
    · rintro τ G1 ⟨⟨t4, rfl⟩, h1⟩
      rw [rangeW_len] at h1
      exact ⟨still_nil, t4, G1, rfl, h1⟩
  obtain ⟨s4, G', h2, hn⟩ := hloop
  refine ⟨G.length, G', mDef_ok [some (.loc o), some (.int a), some (.int d), none, none, none] ?_, hn⟩
  unfold b_law_thin
  refine (seq_nx (τ1 := [some (.loc o), some (.int a), some (.int d), some (.loc G.length), none, none]) (G1 := G ++ [.lst []]) (by simp)).trans ?_
  exact (seq_nx h2).trans (by simp)
end Lk09
set_option Elab.async false
set_option linter.all false
set_option maxRecDepth 100000
set_option maxHeartbeats 4000000
namespace Lk09
open PySem PySem.Spec PyProof.Rows L2 Sy
/-! widened -/
theorem spread {α : Type} (f : Nat → α) (j : Nat) {a : Nat} (ha : 0 < a) : (List.range ((j + 1) * a)).map (fun x => f (x / a)) = (List.range (j * a)).map (fun x => f (x / a)) ++ List.replicate a (f j) := by
  rw [Nat.succ_mul, List.range_add, List.map_append, List.map_map]
  congr 1
  refine List.eq_replicate_iff.mpr ⟨by simp, fun x hx => ?_⟩
  obtain ⟨k, hk, rfl⟩ := List.mem_map.mp hx
  have := List.mem_range.mp hk
  show f ((j * a + k) / a) = f j
  rw [Nat.mul_comm j a, dv ha this]
def wideR (p : List (List Int)) (wide a y : Nat) : List Int := (List.range (wide * a)).map fun x => cellP p y (x / a)
def widenP (p : List (List Int)) (wide a d : Nat) : List (List Int) := (List.range (p.length * d)).map fun y => wideR p wide a (y / d)
theorem widen_grid (p : List (List Int)) (wide a d : Nat) : widenP p wide a d = grid (wide * a) (p.length * d) fun y x => cellP p (y / d) (x / a) := rfl
theorem widen_good {p : List (List Int)} {wide a d : Nat} (g : Good p wide) (ha : 0 < a) (hd : 0 < d) (h1 : wide * a ≤ 24) (h2 : p.length * d ≤ 24) : Good (widenP p wide a d) (wide * a) := by
  rw [widen_grid]
  have w0 := Nat.mul_pos g.w0 ha
  have h0 := Nat.mul_pos g.h0 hd
  refine grid_good h0 h2 w0 h1 fun y x hy hx => cellP_ok g ?_ ?_
  · exact Nat.div_lt_of_lt_mul (by rw [Nat.mul_comm]; exact hy)
  · exact Nat.div_lt_of_lt_mul (by rw [Nat.mul_comm]; exact hx)
theorem kth_mul {k n : Nat} (hk : 0 < k) : kth k (n * k) = (List.range n).map fun j => k * j := by
  rw [← kth_range hk, show n * k + k - 1 = k * n + (k - 1) by rw [Nat.mul_comm n k]; omega, dv hk (by omega)]
theorem grid_cell {wide high y x : Nat} {f : Nat → Nat → Int} (hy : y < high) (hx : x < wide) : cellP (grid wide high f) y x = f y x := by
  unfold cellP
  rw [getD_of (grid_row hy), getD_of (by rw [List.getElem?_map, List.getElem?_range hx]; rfl)]
theorem thin_widen {p : List (List Int)} {wide a d : Nat} (g : Good p wide) (ha : 0 < a) (hd : 0 < d) : thinP (widenP p wide a d) (wide * a) a d = p := by
  have hl : (widenP p wide a d).length = p.length * d := by unfold widenP; simp
  unfold thinP
  rw [hl, kth_mul hd, kth_mul ha, List.map_map]
  conv => rhs; rw [pic_grid g]
  unfold grid
  refine List.map_congr_left fun y hy => ?_
  rw [Function.comp, List.map_map]
  refine List.map_congr_left fun x hx => ?_
  have hy := List.mem_range.mp hy
  have hx := List.mem_range.mp hx
  have e1 : d * y < p.length * d := by
    rw [Nat.mul_comm p.length d]
    exact Nat.mul_lt_mul_of_pos_left hy hd
  have e2 : a * x < wide * a := by
    rw [Nat.mul_comm wide a]
    exact Nat.mul_lt_mul_of_pos_left hx ha
  show cellP (widenP p wide a d) (d * y) (a * x) = cellP p y x
  rw [widen_grid, grid_cell e1 e2, Nat.mul_div_cancel_left y hd, Nat.mul_div_cancel_left x ha]
theorem NewP.many {G G1 G2 : GH} {n : Nat} {pic : List (List Int)} (h : NewP G G1 n pic) (k : Sy.Keeps G1 G2) (rows : List (List Int)) :
    ∃ us : List W, (∀ G3, Sy.Keeps G1 G3 → G3[n]? = some (.lst us)) ∧ us.length = pic.length ∧ NewP G ((G2 ++ rows.map fun r => GO.lst (iW r)).set n (.lst (us ++ locs G2.length rows.length))) n (pic ++ rows) := by
  obtain ⟨ms, rr, nd, hn, ht⟩ := h.at_
  have hml := rr.len
  rw [List.length_map] at hml
  have hold := PicAt.old rr
  have k3 := k.trans (Keeps.app G2 (rows.map fun r => GO.lst (iW r)))
  have ktop := k3.get rr.top
  refine ⟨ms.map W.loc, fun G3 k4 => k4.get rr.top, by rw [List.length_map]; exact hml, (h.keep.trans k3).set h.top _, h.top, ms ++ places G2.length rows.length, ⟨?_, ?_⟩, ?_, fun z => ?_, fun m hm => ?_⟩
  · rw [set_at ktop, List.map_append, places_loc]
  · rw [List.map_append]
    refine paired_app (paired_of rr.row.length fun i m r e1 e2 => ?_) (paired_of (by simp [places]) fun i m r e1 e2 => ?_)
    · rw [List.getElem?_set_ne (fun z => hn (by rw [z]; exact List.mem_of_getElem? e1))]
      exact k3.get (paired_get rr.row i m r e1 e2)
    · unfold places at e1
      rw [List.getElem?_map] at e1 e2
      have hi : i < rows.length := by
        cases e4 : rows[i]? with
        | none => rw [e4] at e2; cases e2
        | some _ => exact (List.getElem?_eq_some_iff.mp e4).1
      rw [List.getElem?_range hi] at e1
      cases e1
      have hne : n ≠ G2.length + i := by have := hold.1; have := k.len; omega
      rw [List.getElem?_set_ne hne, get_topk, List.getElem?_map]
      cases e4 : rows[i]? with
      | none => rw [e4] at e2; cases e2
      | some row => rw [e4] at e2; cases e2; rfl
  · rw [List.nodup_append]
    refine ⟨nd, places_nodup _ _, fun x hx y hy e => ?_⟩
    have := hold.2 x hx
    have := places_mem hy
    have := k.len
    omega
  · rcases List.mem_append.mp z with z | z
    · exact hn z
    · have := places_mem z
      have := hold.1
      have := k.len
      omega
  · rcases List.mem_append.mp hm with z | z
    · exact ht m z
    · have := places_mem z
      have := h.keep.len
      have := k.len
      omega
theorem aug_add {i n : Nat} {m : M T} {τ : Sl} {G G1 : GH} {us ws : List W} (hi : τ[i]? = some (some (.loc n))) (hm : m τ G = .ok (.tmp ws) G1) (h : G1[n]? = some (.lst us)) (hl : us.length + ws.length ≤ 16777216) : sAug i fAugAdd m τ G = .nx (τ.set i (some (.loc n))) (G1.set n (.lst (us ++ ws))) := by
  have e1 : mVar i τ G = .ok (.val (.loc n)) G := by
    rw [mVar_at, hi]
    rfl
  have e2 : lstAt (.val (.loc n)) G1 = some (n, us) := by simp [h]
  unfold sAug
  rw [e1, R.toS_ok, hm, R.toS_ok]
  unfold fAugAdd
  dsimp only
  rw [e2, wrl_tmp]
  dsimp only
  rw [if_pos hl]
  rfl
noncomputable abbrev wdRow : MS := (sFor (miA (mVar 5)) (gN 3) (sAug 6 fAugAdd (mBin fMul (mLst (mCons (mVar 3) mNil)) (mVar 1))))
theorem wd_row {G : GH} {o a d y r n : Nat} {p : List (List Int)} {wide : Nat} {s3 s7 : Option W} (g : Good p wide) (hy : y < p.length) (hr : G[r]? = some (.lst (iW p[y]))) (ha : 0 < a) (ha2 : a ≤ 24) :
    ∃ s3', wdRow [some (.loc o), some (.int a), some (.int d), s3, some (.loc n), some (.loc r), some (.loc G.length), s7] (G ++ [.lst []]) = .nx [some (.loc o), some (.int a), some (.int d), s3', some (.loc n), some (.loc r), some (.loc G.length), s7] (G ++ [.lst (iW (wideR p wide a y))]) := by
  have hrl := g.row _ (List.getElem_mem hy)
  have hw := g.w1
  have hit := iterA_at ((Keeps.app G [GO.lst []]).get hr)
  have hmi : miA (mVar 5) [some (.loc o), some (.int a), some (.int d), s3, some (.loc n), some (.loc r), some (.loc G.length), s7] (G ++ [.lst []]) = .ok (iW p[y], [(r, iW p[y])]) (G ++ [.lst []]) := by
    generalize iW p[y] = L at *
    simp [miA_at, hit]
  rw [wdRow, sFor_at, hmi, R.toS_ok]
  refine forL_run (fun j τ G' => j ≤ wide ∧ (∃ t : Option W, τ = [some (.loc o), some (.int a), some (.int d), t, some (.loc n), some (.loc r), some (.loc G.length), s7]) ∧ G' = G ++ [.lst (iW ((List.range (j * a)).map fun x => cellP p y (x / a)))])
    (fun z => ∃ s3' : Option W, z = .nx [some (.loc o), some (.int a), some (.int d), s3', some (.loc n), some (.loc r), some (.loc G.length), s7] (G ++ [.lst (iW (wideR p wide a y))])) (G := G ++ [.lst []]) ⟨Nat.zero_le _, ⟨s3, rfl⟩, by rw [Nat.zero_mul]; rfl⟩ ?_ ?_
  · rintro j w τ G' hwj ⟨_, ⟨t, rfl⟩, rfl⟩
    have hj : j < wide := by
      have := (List.getElem?_eq_some_iff.mp hwj).1
      rw [List.length_map] at this
      omega
    rw [cell_at_row g hy hj] at hwj
    cases hwj
    have e1 := last_get G (.lst (iW ((List.range (j * a)).map fun x => cellP p y (x / a))))
    have hm := mul_one_list (G := G ++ [GO.lst (iW ((List.range (j * a)).map fun x => cellP p y (x / a)))]) (c := cellP p y j) (k := a) (by omega)
    have hja : j * a ≤ 24 * 24 := Nat.mul_le_mul (by omega) ha2
    have hs := aug_add (i := 6) (m := mBin fMul (mLst (mCons (mVar 3) mNil)) (mVar 1)) (τ := [some (.loc o), some (.int a), some (.int d), some (.int (cellP p y j)), some (.loc n), some (.loc r), some (.loc G.length), s7]) (G := G ++ [GO.lst (iW ((List.range (j * a)).map fun x => cellP p y (x / a)))]) (ws := iW (List.replicate a (cellP p y j))) rfl (by
      generalize G ++ [GO.lst (iW ((List.range (j * a)).map fun x => cellP p y (x / a)))] = G9 at *
      generalize iW (List.replicate a (cellP p y j)) = X at *
      generalize cellP p y j = c at *
      simp [hm]) e1 (by rw [List.length_map, List.length_map, List.length_map, List.length_range, List.length_replicate]; omega)
    rw [set_top0, List.set_cons_zero, iW_app, ← spread (cellP p y) j ha] at hs
    have hst := still_of ((Keeps.app G [GO.lst (iW ((List.range (j * a)).map fun x => cellP p y (x / a)))]).get hr)
    generalize G ++ [GO.lst (iW ((List.range (j * a)).map fun x => cellP p y (x / a)))] = G8 at *
    refine ⟨hst, [some (.loc o), some (.int a), some (.int d), some (.int (cellP p y j)), some (.loc n), some (.loc r), some (.loc G.length), s7], rfl, ?_⟩
    have e6 : [some (.loc o), some (.int a), some (.int d), some (.int (cellP p y j)), some (.loc n), some (.loc r), some (.loc G.length), s7].set 6 (some (W.loc G.length)) = [some (.loc o), some (.int a), some (.int d), some (.int (cellP p y j)), some (.loc n), some (.loc r), some (.loc G.length), s7] := rfl
    rw [e6] at hs
    rw [hs]
    refine ⟨hj, ⟨some (.int (cellP p y j)), rfl⟩, ?_⟩
    rfl
  · rintro τ G' ⟨_, ⟨t, rfl⟩, rfl⟩
    rw [List.length_map, hrl]
    exact ⟨still_of ((Keeps.app G _).get hr), t, rfl⟩
theorem mul_small {n k : Nat} (hn : n ≤ 24) (hk : Builtin.Int.intBits (k : Int) ≤ 100) (G : GH) : fMul (.val (.int n)) (.val (.int k)) G = .ok (.val (.int (n * k : Nat))) G := by
  rw [fMul_int (mulOk_of (bits_small (z := (n : Int)) (m := 10) (by omega) (by omega)) hk (by decide))]
  congr 3
theorem widened_good {G : GH} {o a d : Nat} {p : List (List Int)} {wide : Nat} (g : Good p wide) (hp : PicAt G o p) (ha : 0 < a) (hd : 0 < d) (h1 : wide * a ≤ 24) (h2 : p.length * d ≤ 24) (ba : Builtin.Int.intBits (a : Int) ≤ 100) (bd : Builtin.Int.intBits (d : Int) ≤ 100) :
    ∃ (n : Nat) (G' : GH), m_widened [.loc o, .int a, .int d] G = .ok (.loc n) G' ∧ NewP G G' n (widenP p wide a d) := by
  have n1 : m_need_picture [.loc o] G = .ok .non G := by obtain ⟨ms, r⟩ := hp; exact need_picture_good r g
  have n2 := need_steps_eq (okW_int G a) (okW_int G d)
  rw [low_nat ha, low_nat hd] at n2
  have hl := pic_len hp
  obtain ⟨m0, w1, w2, _⟩ := pic_wide hp g
  have hh := g.h1
  have hw := g.w1
  have p1 := mul_small hw ba G
  have p2 := mul_small hh bd G
  have ha24 : a ≤ 24 := Nat.le_trans (Nat.le_mul_of_pos_left a g.w0) h1
  have hd24 : d ≤ 24 := Nat.le_trans (Nat.le_mul_of_pos_left d g.h0) h2
  have c1 : ¬ ((24 : Int) < ((wide * a : Nat) : Int)) := by omega
  have c2 : ¬ ((24 : Int) < ((p.length * d : Nat) : Int)) := by omega
  have hloop : ∃ (s3 s5 s6 : Option W) (G' : GH), sFor (miA (mVar 0)) (gN 5) (sSeq (sSet 6 (mLst mNil)) (sSeq wdRow (sAug 4 fAugAdd (mComp (miR (mCons (mVar 2) mNil)) (gN 7) mYes (mBi fList (mConsT (mVar 6) mNilT)) [7])))) [some (.loc o), some (.int a), some (.int d), none, some (.loc G.length), none, none, none] (G ++ [.lst []]) = .nx [some (.loc o), some (.int a), some (.int d), s3, some (.loc G.length), s5, s6, none] G' ∧ NewP G G' G.length (widenP p wide a d) := by
    obtain ⟨ms, r⟩ := hp
    have hml : ms.length = p.length := by have := r.len; rwa [List.length_map] at this
    have n0 := newP_nil G
    have hit := iterA_at (n0.keep.get r.top)
    have hmi : miA (mVar 0) [some (.loc o), some (.int a), some (.int d), none, some (.loc G.length), none, none, none] (G ++ [.lst []]) = .ok (ms.map W.loc, [(o, ms.map W.loc)]) (G ++ [.lst []]) := by
      generalize ms.map W.loc = L at *
      simp [miA_at, hit]
    rw [sFor_at, hmi, R.toS_ok]
    refine forL_run (fun i τ G' => (∃ s3 s5 s6 : Option W, τ = [some (.loc o), some (.int a), some (.int d), s3, some (.loc G.length), s5, s6, none]) ∧ NewP G G' G.length ((List.range (i * d)).map fun y => wideR p wide a (y / d)))
      (fun z => ∃ (s3 s5 s6 : Option W) (G' : GH), z = .nx [some (.loc o), some (.int a), some (.int d), s3, some (.loc G.length), s5, s6, none] G' ∧ NewP G G' G.length (widenP p wide a d)) ⟨⟨none, none, none, rfl⟩, by simpa using n0⟩ ?_ ?_
    · rintro i w τ G1 hwi ⟨⟨t3, t5, t6, rfl⟩, h3⟩
      rw [List.getElem?_map] at hwi
      cases e3 : ms[i]? with
      | none => rw [e3] at hwi; cases hwi
      | some m =>
        rw [e3] at hwi
        cases hwi
        have hi : i < p.length := by rw [← hml]; exact (List.getElem?_eq_some_iff.mp e3).1
        have hr : G[m]? = some (.lst (iW p[i])) := paired_get r.row i m _ e3 (by rw [List.getElem?_map, List.getElem?_eq_getElem hi]; rfl)
        obtain ⟨t3', ew⟩ := wd_row (o := o) (d := d) (n := G.length) (s3 := t3) (s7 := none) g hi (h3.keep.get hr) ha ha24
        have k2 := Keeps.app G1 [GO.lst (iW (wideR p wide a i))]
        have e2 := last_get G1 (.lst (iW (wideR p wide a i)))
        obtain ⟨us, hus, hul, hmany⟩ := h3.many k2 (List.replicate d (wideR p wide a i))
        have hir := iterR_nat d (by omega) (G1 ++ [GO.lst (iW (wideR p wide a i))])
        have hcf := compF_allocR (src := []) (g := gN 7) (c := mYes) (e := mBi fList (mConsT (mVar 6) mNilT)) (τ := [some (.loc o), some (.int a), some (.int d), t3', some (.loc G.length), some (.loc m), some (.loc G1.length), none]) (G := G1 ++ [GO.lst (iW (wideR p wide a i))]) (n := d) (fun _ => iW (wideR p wide a i)) (fun xs => still_nil) (fun j hj xs => ⟨_, rfl, rfl, by
          have := fList_loc ((Keeps.app _ xs).get e2)
          generalize G1 ++ [GO.lst (iW (wideR p wide a i))] = G2 at *
          generalize iW (wideR p wide a i) = X at *
          simp [this]⟩)
        have er : (List.range d).map (fun _ => GO.lst (iW (wideR p wide a i))) = (List.replicate d (wideR p wide a i)).map fun r => GO.lst (iW r) := by
          rw [List.map_replicate]
          exact List.eq_replicate_iff.mpr ⟨by simp, fun x hx => by obtain ⟨_, _, rfl⟩ := List.mem_map.mp hx; rfl⟩
        rw [er] at hcf
        have hl16 : (rangeW 0 d).length ≤ 16777216 := by rw [rangeW_len]; omega
        rw [List.length_replicate] at hmany
        have hlocs : (locs (G1 ++ [GO.lst (iW (wideR p wide a i))]).length d).length = d := locs_len _ _
        have hid : i * d ≤ 24 * 24 := Nat.mul_le_mul (by omega) hd24
        rw [List.length_map, List.length_range] at hul
        have haug := aug_add (i := 4) (m := mComp (miR (mCons (mVar 2) mNil)) (gN 7) mYes (mBi fList (mConsT (mVar 6) mNilT)) [7]) (τ := [some (.loc o), some (.int a), some (.int d), t3', some (.loc G.length), some (.loc m), some (.loc G1.length), none]) (G := G1 ++ [GO.lst (iW (wideR p wide a i))]) (G1 := G1 ++ [GO.lst (iW (wideR p wide a i))] ++ (List.replicate d (wideR p wide a i)).map fun r => GO.lst (iW r)) (ws := locs (G1 ++ [GO.lst (iW (wideR p wide a i))]).length d) (us := us) rfl (by
          generalize (List.replicate d (wideR p wide a i)).map (fun r => GO.lst (iW r)) = X at *
          generalize G1 ++ [GO.lst (iW (wideR p wide a i))] = G2 at *
          generalize rangeW 0 d = R at *
          rw [mComp_at, miR_at]
          simp [hir, hl16, wipeS, hcf]) (hus _ (k2.trans (Keeps.app _ _))) (by rw [hlocs]; omega)
        refine ⟨still_of (h3.keep.get r.top), [some (.loc o), some (.int a), some (.int d), t3, some (.loc G.length), some (.loc m), t6, none], rfl, turn_of ((seq_nx (τ1 := [some (.loc o), some (.int a), some (.int d), t3, some (.loc G.length), some (.loc m), some (.loc G1.length), none]) (G1 := G1 ++ [.lst []]) (by simp)).trans ((seq_nx ew).trans haug)) ⟨⟨_, _, _, rfl⟩, ?_⟩⟩
        rw [spread (fun y => wideR p wide a y) i hd]
        exact hmany
    · rintro τ G1 ⟨⟨t3, t5, t6, rfl⟩, h3⟩
      rw [List.length_map, hml] at h3
      exact ⟨still_of (h3.keep.get r.top), t3, t5, t6, G1, rfl, h3⟩
  obtain ⟨s3, s5, s6, G', h3, hn⟩ := hloop
  refine ⟨G.length, G', mDef_ok [some (.loc o), some (.int a), some (.int d), none, none, none, none, none] ?_, hn⟩
  unfold b_widened
  refine (seq_nx (τ1 := [some (.loc o), some (.int a), some (.int d), none, none, none, none, none]) (G1 := G) (by simp [n1])).trans ?_
  refine (seq_nx (τ1 := [some (.loc o), some (.int a), some (.int d), none, none, none, none, none]) (G1 := G) (by simp [n2])).trans ?_
  refine (seq_no (G1 := G) (by
    generalize ((wide * a : Nat) : Int) = P1 at *
    generalize ((p.length * d : Nat) : Int) = P2 at *
    simp [hl, w1, w2, p1, p2, c1, c2])).trans ?_
  refine (seq_nx (τ1 := [some (.loc o), some (.int a), some (.int d), none, some (.loc G.length), none, none, none]) (G1 := G ++ [.lst []]) (by simp)).trans ?_
  exact (seq_nx h3).trans (by simp)
theorem widened_bad1 {G : GH} {w : W} (h : m_is_picture [w] G = .ok (.bl false) G) (x y : W) : m_widened [w, x, y] G = .ex 1 [] G := by
  have h1 := need_picture_bad h
  refine mDef_ex [some w, some x, some y, none, none, none, none, none] (τ1 := [some w, some x, some y, none, none, none, none, none]) ?_
  unfold b_widened
  exact seq_ex (by simp [h1])
theorem widened_low {G : GH} {o : Nat} {w u : W} {p : List (List Int)} {wide : Nat} (g : Good p wide) (hp : PicAt G o p) (h1 : okW G w) (h2 : okW G u) (hl : (lowW w || lowW u) = true) : m_widened [.loc o, w, u] G = .ex 2 [] G := by
  have n1 : m_need_picture [.loc o] G = .ok .non G := by obtain ⟨ms, r⟩ := hp; exact need_picture_good r g
  have n2 := need_steps_eq h1 h2
  rw [hl, if_pos rfl] at n2
  refine mDef_ex [some (.loc o), some w, some u, none, none, none, none, none] (τ1 := [some (.loc o), some w, some u, none, none, none, none, none]) ?_
  unfold b_widened
  refine (seq_nx (τ1 := [some (.loc o), some w, some u, none, none, none, none, none]) (G1 := G) (by simp [n1])).trans ?_
  exact seq_ex (by simp [n2])
theorem widened_far {G : GH} {o a d : Nat} {p : List (List Int)} {wide : Nat} (g : Good p wide) (hp : PicAt G o p) (ha : 0 < a) (hd : 0 < d) (ba : Builtin.Int.intBits (a : Int) ≤ 100) (bd : Builtin.Int.intBits (d : Int) ≤ 100) (hf : ¬ (wide * a ≤ 24 ∧ p.length * d ≤ 24)) : m_widened [.loc o, .int a, .int d] G = .ex 2 [] G := by
  have n1 : m_need_picture [.loc o] G = .ok .non G := by obtain ⟨ms, r⟩ := hp; exact need_picture_good r g
  have n2 := need_steps_eq (okW_int G a) (okW_int G d)
  rw [low_nat ha, low_nat hd] at n2
  have hl := pic_len hp
  obtain ⟨m0, w1, w2, _⟩ := pic_wide hp g
  have p1 := mul_small g.w1 ba G
  have p2 := mul_small g.h1 bd G
  refine mDef_ex [some (.loc o), some (.int a), some (.int d), none, none, none, none, none] (τ1 := [some (.loc o), some (.int a), some (.int d), none, none, none, none, none]) ?_
  unfold b_widened
  refine (seq_nx (τ1 := [some (.loc o), some (.int a), some (.int d), none, none, none, none, none]) (G1 := G) (by simp [n1])).trans ?_
  refine (seq_nx (τ1 := [some (.loc o), some (.int a), some (.int d), none, none, none, none, none]) (G1 := G) (by simp [n2])).trans ?_
  refine seq_ex ((if_yes (G1 := G) ?_).trans (by simp))
  by_cases q1 : wide * a ≤ 24
  · have q2 : (24 : Int) < ((p.length * d : Nat) : Int) := by
      have : ¬ p.length * d ≤ 24 := fun z => hf ⟨q1, z⟩
      omega
    have q3 : ¬ ((24 : Int) < ((wide * a : Nat) : Int)) := by omega
    generalize ((wide * a : Nat) : Int) = P1 at *
    generalize ((p.length * d : Nat) : Int) = P2 at *
    simp [hl, w1, w2, p1, p2, q2, q3]
  · have q3 : (24 : Int) < ((wide * a : Nat) : Int) := by omega
    generalize ((wide * a : Nat) : Int) = P1 at *
    simp [w1, w2, p1, q3]
end Lk09
set_option Elab.async false
set_option linter.all false
set_option maxRecDepth 100000
set_option maxHeartbeats 4000000
namespace Lk09
open PySem PySem.Spec PyProof.Rows L2 Sy
/-! steps that are drawn -/
inductive StepK (G : GH) : W → Prop
  | nat {k : Nat} (h : 0 < k) (b : Builtin.Int.intBits (k : Int) ≤ 100) : StepK G (.int k)
  | low {w : W} (ok : okW G w) (h : lowW w = true) : StepK G w
theorem StepK.keep {G G' : GH} {w : W} (h : StepK G w) (k : Sy.Keeps G G') : StepK G' w := by
  cases h with
  | nat h b => exact .nat h b
  | low ok h => exact .low (okW_keep ok k) h
theorem StepK.ok {G : GH} {w : W} (h : StepK G w) : okW G w := by
  cases h with
  | nat h b => exact okW_int G _
  | low ok h => exact ok
theorem law_step_eq (z : Int) (G : GH) : ∃ (w : W) (G' : GH), m_law_step [.int z] G = .ok w G' ∧ Sy.Keeps G G' ∧ StepK G' w := by
  have m8 : ∀ G, fMod (.val (.int z)) (.val (.int 8)) G = .ok (.val (.int (z % 8))) G := fun G => fMod_int (by decide)
  have f8 : ∀ G, fFdiv (.val (.int z)) (.val (.int 8)) G = .ok (.val (.int (z / 8))) G := fun G => fFdiv_int (by decide) (by decide)
  have f56 : ∀ G, fFdiv (.val (.int z)) (.val (.int 56)) G = .ok (.val (.int (z / 56))) G := fun G => fFdiv_int (by decide) (by decide)
  have hp : ∀ G, fPow (.val (.int 10)) (.val (.int 20)) G = .ok (.val (.int 100000000000000000000)) G := fun _ => rfl
  have mb : ∀ G, fMod (.val (.int (z / 56))) (.val (.int 100000000000000000000)) G = .ok (.val (.int (z / 56 % 100000000000000000000))) G := fun G => fMod_int (by decide)
  have m7 : ∀ G, fMod (.val (.int (z / 8))) (.val (.int 7)) G = .ok (.val (.int (z / 8 % 7))) G := fun G => fMod_int (by decide)
  have m9 : ∀ G, fMod (.val (.int (z / 8))) (.val (.int 9)) G = .ok (.val (.int (z / 8 % 9))) G := fun G => fMod_int (by decide)
  have m3 : ∀ G, fMod (.val (.int (z / 8))) (.val (.int 3)) G = .ok (.val (.int (z / 8 % 3))) G := fun G => fMod_int (by decide)
  have mB : ∀ G, fMod (.val (.int (z / 8))) (.val (.int 100000000000000000000)) G = .ok (.val (.int (z / 8 % 100000000000000000000))) G := fun G => fMod_int (by decide)
  have m4 : ∀ G, fMod (.val (.int z)) (.val (.int 4)) G = .ok (.val (.int (z % 4))) G := fun G => fMod_int (by decide)
  obtain ⟨y, hy0, _⟩ := Sy.mod_nat (z / 56) (show 0 < 100000000000000000000 by decide)
  have hy : z / 56 % 100000000000000000000 = (y : Int) := hy0
  obtain ⟨j, hj0, hj7⟩ := Sy.mod_nat (z / 8) (show 0 < 7 by decide)
  have hj : z / 8 % 7 = (j : Int) := hj0
  obtain ⟨x1, h10, h1⟩ := Sy.mod_nat (z / 8) (show 0 < 9 by decide)
  have hx1 : z / 8 % 9 = (x1 : Int) := h10
  obtain ⟨x2, h20, h2⟩ := Sy.mod_nat (z / 8) (show 0 < 3 by decide)
  have hx2 : z / 8 % 3 = (x2 : Int) := h20
  obtain ⟨x3, h30, h3⟩ := Sy.mod_nat (z / 8) (show 0 < 100000000000000000000 by decide)
  have hx3 : z / 8 % 100000000000000000000 = (x3 : Int) := h30
  obtain ⟨b, hb0, hb4⟩ := Sy.mod_nat z (show 0 < 4 by decide)
  have hb : z % 4 = (b : Int) := hb0
  rw [hy] at mb
  rw [hj] at m7
  rw [hx1] at m9
  rw [hx2] at m3
  rw [hx3] at mB
  rw [hb] at m4
  generalize z / 8 = v at *
  generalize z / 56 = u at *
  have small : ∀ n : Nat, n < 100000000000000000025 → Builtin.Int.intBits (n : Int) ≤ 100 := fun n hn => Nat.le_trans (bits_small (z := (n : Int)) (m := 67) (by omega) (Int.lt_of_lt_of_le (show (n : Int) < 100000000000000000025 by omega) (by decide))) (by decide)
  by_cases h5 : z % 8 = 5
  · have e1 := last_get G (.lst [.int 1])
    have hrun : ∀ w, fIx (.tmp [.int 0, .int (-1), .bl true, .non, .str "2", .loc G.length, .int (-1 - (y : Int))]) (.val (.int (j : Nat))) (G ++ [.lst [.int 1]]) = .ok (.val w) (G ++ [.lst [.int 1]]) → m_law_step [.int z] G = .ok w (G ++ [.lst [.int 1]]) := fun w h => by
      refine mDef_ok [some (.int z)] ?_
      unfold b_law_step
      refine (seq_yes (G1 := G) (by simp [m8, h5])).trans ?_
      simp [f8, f56, hp, mb, m7, h]
    have k := Keeps.app G [GO.lst [.int 1]]
    rcases (show j = 0 ∨ j = 1 ∨ j = 2 ∨ j = 3 ∨ j = 4 ∨ j = 5 ∨ j = 6 by omega) with rfl | rfl | rfl | rfl | rfl | rfl | rfl
    · exact ⟨_, _, hrun _ (fIx_tmp (k := 0) rfl), k, .low rfl rfl⟩
    · exact ⟨_, _, hrun _ (fIx_tmp (k := 1) rfl), k, .low rfl rfl⟩
    · exact ⟨_, _, hrun _ (fIx_tmp (k := 2) rfl), k, .low rfl rfl⟩
    · exact ⟨_, _, hrun _ (fIx_tmp (k := 3) rfl), k, .low rfl rfl⟩
    · exact ⟨_, _, hrun _ (fIx_tmp (k := 4) rfl), k, .low rfl rfl⟩
    · exact ⟨_, _, hrun _ (fIx_tmp (k := 5) rfl), k, .low (okW_list e1) rfl⟩
    · refine ⟨_, _, hrun _ (fIx_tmp (k := 6) rfl), k, .low rfl ?_⟩
      show decide (-1 - (y : Int) < 1) = true
      rw [decide_eq_true (by omega)]
  · have hrun : ∀ w, fIx (.tmp [.int (1 + (x1 : Int)), .int (1 + (x2 : Int)), .int (1 + (x2 : Int)), .int (24 + (x3 : Int))]) (.val (.int (b : Nat))) G = .ok (.val w) G → m_law_step [.int z] G = .ok w G := fun w h => by
      refine mDef_ok [some (.int z)] ?_
      unfold b_law_step
      refine (seq_no (G1 := G) (by simp [m8, h5])).trans ?_
      simp [f8, m9, m3, mB, hp, m4, h]
    have c1 : (1 : Int) + (x1 : Int) = ((1 + x1 : Nat) : Int) := by omega
    have c2 : (1 : Int) + (x2 : Int) = ((1 + x2 : Nat) : Int) := by omega
    have c3 : (24 : Int) + (x3 : Int) = ((24 + x3 : Nat) : Int) := by omega
    rw [c1, c2, c3] at hrun
    rcases (show b = 0 ∨ b = 1 ∨ b = 2 ∨ b = 3 by omega) with rfl | rfl | rfl | rfl
    · exact ⟨_, _, hrun _ (fIx_tmp (k := 0) rfl), Keeps.refl _, .nat (by omega) (small _ (by omega))⟩
    · exact ⟨_, _, hrun _ (fIx_tmp (k := 1) rfl), Keeps.refl _, .nat (by omega) (small _ (by omega))⟩
    · exact ⟨_, _, hrun _ (fIx_tmp (k := 2) rfl), Keeps.refl _, .nat (by omega) (small _ (by omega))⟩
    · exact ⟨_, _, hrun _ (fIx_tmp (k := 3) rfl), Keeps.refl _, .nat (by omega) (small _ (by omega))⟩
/-! marks on a picture, others laid behind it staying -/
theorem mark_under {G G1 Gx : GH} {n : Nat} {p : List (List Int)} {wide : Nat} (g : Good p wide) (h : NewP G G1 n p) (k : Sy.Keeps G1 Gx) : ∃ G2, m_law_marked [.loc n] Gx = .ok (.bl true) G2 ∧ Sy.Keeps G G2 ∧ G2.length = Gx.length ∧ ∀ j, G1.length ≤ j → G2[j]? = Gx[j]? := by
  obtain ⟨ms, a, nd, hn, ht⟩ := h.at_
  have hold := (PicAt.old a).2
  obtain ⟨G2, k2, l2, e2⟩ := marked_at g (a.keep k) hn
  have := h.keep.len
  have := k.len
  refine ⟨G2, e2, ⟨by omega, fun j hj => ?_⟩, l2, fun j hj => k2 j fun z => by have := hold j z; omega⟩
  rw [k2 j (fun z => by have := ht j z; omega), k.old j (by omega), h.keep.old j hj]
theorem NewP.base {G G1 Gx G2 : GH} {m : Nat} {q : List (List Int)} (w : NewP G1 Gx m q) (k : Sy.Keeps G G2) (hl : G2.length = Gx.length) (hg : G.length ≤ G1.length) (ho : ∀ j, G1.length ≤ j → G2[j]? = Gx[j]?) : ∃ B, Sy.Keeps G B ∧ NewP B G2 m q := by
  obtain ⟨ms, a, nd, hn, ht⟩ := w.at_
  have h1 := w.keep.len
  have hB : (G2.take G1.length).length = G1.length := by rw [List.length_take]; omega
  refine ⟨G2.take G1.length, ⟨by omega, fun j hj => ?_⟩, ⟨by omega, fun j hj => ?_⟩, by have := w.top; omega, ms, ⟨?_, ?_⟩, nd, hn, fun j hj => by have := ht j hj; omega⟩
  · rw [List.getElem?_take, if_pos (by omega), k.old j hj]
  · rw [List.getElem?_take, if_pos (by omega)]
  · rw [ho m w.top]
    exact a.top
  · refine paired_of a.row.length fun i x r e1 e2 => ?_
    rw [ho x (ht x (List.mem_of_getElem? e1))]
    exact paired_get a.row i x r e1 e2
theorem refused_eqT {G : GH} {n1 n2 m : Nat} {b1 b2 b3 : Bool} (h1 : G[n1]? = some (bls b1 b2 b3)) (h2 : G[n2]? = some (bls b1 b2 b3)) (hm : G[m]? = some (bls b1 b2 b3)) : fEq (.tmp [refusedW n1, refusedW n2]) (.tmp [.tup [.str "refused", .loc m, .bl true], .tup [.str "refused", .loc m, .bl true]]) G = .ok (.val (.bl true)) G := by
  have e1 : toDT G (.tmp [refusedW n1, refusedW n2]) = some (.list [.tuple [.str "refused", .list [.bool b1, .bool b2, .bool b3], .bool true], .tuple [.str "refused", .list [.bool b1, .bool b2, .bool b3], .bool true]]) := by
    show (mapO (toD 8 G) [refusedW n1, refusedW n2]).map PyData.list = _
    rw [mapO_cons, mapO_cons, mapO_nil, refused_dat h1 5, refused_dat h2 5]
    rfl
  have e2 : toDT G (.tmp [refusedW m, refusedW m]) = some (.list [.tuple [.str "refused", .list [.bool b1, .bool b2, .bool b3], .bool true], .tuple [.str "refused", .list [.bool b1, .bool b2, .bool b3], .bool true]]) := by
    show (mapO (toD 8 G) [refusedW m, refusedW m]).map PyData.list = _
    rw [mapO_cons, mapO_cons, mapO_nil, refused_dat hm 5]
    rfl
  exact eq_same e1 e2 (by rfl)
noncomputable abbrev srGood : M T := (mAndV (mCall m_law_is_number [] (mCons (mVar 2) mNil)) (mAndV (mCall m_law_is_number [] (mCons (mVar 3) mNil)) (mAndV (mBin fGt (mVar 2) (mC (.int 0))) (mBin fGt (mVar 3) (mC (.int 0))))))
theorem sr_good {w u : W} {G : GH} (o1 : okW G w) (o2 : okW G u) (τ : Sl) (h2 : τ[2]? = some (some w)) (h3 : τ[3]? = some (some u)) : srGood τ G = .ok (.val (.bl (!(lowW w || lowW u)))) G := by
  have n1 := is_number_eq o1
  have n2 := is_number_eq o2
  have low : ∀ v : W, isInt v = false → lowW v = true := fun v h => by cases v with
    | int i => cases h
    | _ => rfl
  cases i1 : isInt w with
  | false =>
    rw [i1] at n1
    rw [low w i1]
    simp [h2, n1]
  | true =>
    rw [i1] at n1
    cases i2 : isInt u with
    | false =>
      rw [i2] at n2
      rw [low u i2, Bool.or_true]
      simp [h2, h3, n1, n2]
    | true =>
      rw [i2] at n2
      cases w with
      | int a =>
        cases u with
        | int b =>
          have e1 : lowW (.int a) = !decide (0 < a) := by
            show decide (a < 1) = _
            by_cases h : 0 < a
            · rw [decide_eq_true h, decide_eq_false (by omega)]; rfl
            · rw [decide_eq_false h, decide_eq_true (by omega)]; rfl
          have e2 : lowW (.int b) = !decide (0 < b) := by
            show decide (b < 1) = _
            by_cases h : 0 < b
            · rw [decide_eq_true h, decide_eq_false (by omega)]; rfl
            · rw [decide_eq_false h, decide_eq_true (by omega)]; rfl
          rw [e1, e2]
          by_cases q1 : 0 < a
          · simp [h2, h3, n1, n2, q1]
          · simp [h2, h3, n1, n2, q1]
        | _ => cases i2
      | _ => cases i1
noncomputable abbrev srDue : MS := (sFor (miR (mCons (mBin fMul (mBi fLen (mConsT (mVar 0) mNilT)) (mVar 3)) mNil)) (gN 8) (sDrop (mMtF isLst fApp (mVar 4) (mCons (mComp (miR (mCons (mBin fMul (mBi fLen (mConsT (mBin fIx (mVar 0) (mC (.int 0))) mNilT)) (mVar 2)) mNil)) (gN 9) mYes (mBin fIx (mBin fIx (mVar 0) (mBin fFdiv (mVar 8) (mVar 3))) (mBin fFdiv (mVar 9) (mVar 2))) [9]) mNil))))
theorem sr_due {G : GH} {o a d : Nat} {s1 s5 s6 s7 : Option W} {p : List (List Int)} {wide : Nat} (g : Good p wide) (hp : PicAt G o p) (ha : 0 < a) (hd : 0 < d) (h1 : wide * a ≤ 24) (h2 : p.length * d ≤ 24) (ba : Builtin.Int.intBits (a : Int) ≤ 100) (bd : Builtin.Int.intBits (d : Int) ≤ 100) :
    ∃ (s8 : Option W) (G' : GH), srDue [some (.loc o), s1, some (.int a), some (.int d), some (.loc G.length), s5, s6, s7, none, none] (G ++ [.lst []]) = .nx [some (.loc o), s1, some (.int a), some (.int d), some (.loc G.length), s5, s6, s7, s8, none] G' ∧ NewP G G' G.length (widenP p wide a d) := by
  have hh := g.h1
  have hw := g.w1
  have ha24 : a ≤ 24 := Nat.le_trans (Nat.le_mul_of_pos_left a g.w0) h1
  have hd24 : d ≤ 24 := Nat.le_trans (Nat.le_mul_of_pos_left d g.h0) h2
  have hdiv : ∀ (y k : Nat) (G : GH), 0 < k → k ≤ 24 → fFdiv (.val (.int y)) (.val (.int k)) G = .ok (.val (.int (y / k : Nat))) G := fun y k G hk hk2 => by
    rw [fFdiv_int (by omega) (by
      rw [Int.natAbs_natCast]
      have := Nat.log2_le_self k
      omega), ← Int.natCast_ediv]
  have hl := pic_len (hp.keep (Keeps.app G [GO.lst []]))
  have p2 := mul_small hh bd (G ++ [GO.lst []])
  have hir := iterR_nat (p.length * d) (by omega) (G ++ [GO.lst []])
  have hmi : miR (mCons (mBin fMul (mBi fLen (mConsT (mVar 0) mNilT)) (mVar 3)) mNil) [some (.loc o), s1, some (.int a), some (.int d), some (.loc G.length), s5, s6, s7, none, none] (G ++ [.lst []]) = .ok (rangeW 0 (p.length * d), []) (G ++ [.lst []]) := by
    generalize rangeW 0 (p.length * d) = R at *
    generalize ((p.length * d : Nat) : Int) = P2 at *
    simp [miR_at, hl, p2, hir]
  rw [srDue, sFor_at, hmi, R.toS_ok]
  refine forL_run (fun y τ G' => (∃ s8 : Option W, τ = [some (.loc o), s1, some (.int a), some (.int d), some (.loc G.length), s5, s6, s7, s8, none]) ∧ NewP G G' G.length ((List.range y).map fun y => wideR p wide a (y / d)))
    (fun z => ∃ (s8 : Option W) (G' : GH), z = .nx [some (.loc o), s1, some (.int a), some (.int d), some (.loc G.length), s5, s6, s7, s8, none] G' ∧ NewP G G' G.length (widenP p wide a d)) ⟨⟨none, rfl⟩, newP_nil G⟩ ?_ ?_
  · rintro y w τ G1 hwy ⟨⟨t8, rfl⟩, h3⟩
    obtain ⟨hy, rfl⟩ := rangeW_get hwy
    rw [Int.zero_add]
    have hp1 := hp.keep h3.keep
    obtain ⟨m1, y1, y2, _⟩ := pic_wide hp1 g
    have hyd : y / d < p.length := Nat.div_lt_of_lt_mul (by rw [Nat.mul_comm]; exact hy)
    obtain ⟨m, hm, hrow⟩ := hp1.rowAt g hyd
    have hm' := hm _ rfl
    have q1 := hdiv y d G1 hd hd24
    have p1 := mul_small hw ba G1
    have hin := compF_range (g := gN 9) (c := mYes) (e := mBin fIx (mBin fIx (mVar 0) (mBin fFdiv (mVar 8) (mVar 3))) (mBin fFdiv (mVar 9) (mVar 2))) (τ := [some (.loc o), s1, some (.int a), some (.int d), some (.loc G.length), s5, s6, s7, some (.int (y : Nat)), none]) (G := G1) (n := wide * a) (fun x => W.int (cellP p (y / d) (x / a))) (fun x hx => ⟨[some (.loc o), s1, some (.int a), some (.int d), some (.loc G.length), s5, s6, s7, some (.int (y : Nat)), some (.int (x : Nat))], rfl, rfl, by
      have q2 := hdiv x a G1 ha ha24
      have hxa : x / a < wide := Nat.div_lt_of_lt_mul (by rw [Nat.mul_comm]; exact hx)
      have hcell := fIx_loc hrow (cell_at_row g hyd hxa)
      generalize cellP p (y / d) (x / a) = v at *
      generalize ((y / d : Nat) : Int) = Y at *
      generalize ((x / a : Nat) : Int) = X at *
      simp [q1, q2, hm', hcell]⟩)
    rw [show (List.range (wide * a)).map (fun x => W.int (cellP p (y / d) (x / a))) = iW (wideR p wide a (y / d)) by
      unfold iW wideR
      rw [List.map_map]
      rfl] at hin
    have hir2 := iterR_nat (wide * a) (by omega) G1
    have hl16 : (rangeW 0 (wide * a)).length ≤ 16777216 := by rw [rangeW_len]; omega
    obtain ⟨G2, e2, h4⟩ := h3.app (i := 4) (r := wideR p wide a (y / d)) (S := mComp (miR (mCons (mBin fMul (mBi fLen (mConsT (mBin fIx (mVar 0) (mC (.int 0))) mNilT)) (mVar 2)) mNil)) (gN 9) mYes (mBin fIx (mBin fIx (mVar 0) (mBin fFdiv (mVar 8) (mVar 3))) (mBin fFdiv (mVar 9) (mVar 2))) [9]) (τ := [some (.loc o), s1, some (.int a), some (.int d), some (.loc G.length), s5, s6, s7, some (.int (y : Nat)), none]) (G2 := G1) rfl (by
      generalize iW (wideR p wide a (y / d)) = X at *
      generalize rangeW 0 (wide * a) = R at *
      generalize ((wide * a : Nat) : Int) = P1 at *
      rw [mComp_at, miR_at]
      simp [y1, y2, p1, hir2, hl16, wipeS, hin]) (Keeps.refl _) (by rw [List.length_map, List.length_range]; omega)
    refine ⟨still_nil, _, rfl, turn_of e2 ⟨⟨_, rfl⟩, ?_⟩⟩
    rw [List.range_succ, List.map_append]
    exact h4
  · rintro τ G1 ⟨⟨t8, rfl⟩, h3⟩
    rw [rangeW_len] at h3
    exact ⟨still_nil, t8, G1, rfl, h3⟩
end Lk09
set_option Elab.async false
set_option linter.all false
set_option maxRecDepth 100000
set_option maxHeartbeats 4000000
namespace Lk09
open PySem PySem.Spec PyProof.Rows L2 Sy
/-! both steps -/
noncomputable abbrev tellThin : M T := (mThunk 0 "_law_steps_right.<locals>.<lambda>" 3 t_law_refused (mCall m_thinned [] (mCons (mVar 1) (mCons (mVar 2) (mCons (mVar 3) mNil)))))
theorem steps_right_eq {G : GH} {o h : Nat} {w u : W} {p : List (List Int)} {wide : Nat} (hT : G[0]? = some (.tb 0 "_law_steps_right.<locals>.<lambda>")) (g : Good p wide) (hp : PicAt G o p) (hh : PicAt G h p) (K1 : StepK G w) (K2 : StepK G u) :
    ∃ G', Sy.Keeps G G' ∧ m_law_steps_right [.loc o, .loc h, w, u] G = .ok (.bl true) G' := by
  suffices z : ∃ G', Sy.Keeps G G' ∧ b_law_steps_right [some (.loc o), some (.loc h), some w, some u, none, none, none, none, none, none] G = .rt (.bl true) G' by
    obtain ⟨G', k, e⟩ := z
    exact ⟨G', k, mDef_ok _ e⟩
  unfold b_law_steps_right
  have hg0 := sr_good K1.ok K2.ok [some (.loc o), some (.loc h), some w, some u, none, none, none, none, none, none] rfl rfl
  have s5 : sSet 5 srGood [some (.loc o), some (.loc h), some w, some u, none, none, none, none, none, none] G = .nx [some (.loc o), some (.loc h), some w, some u, none, some (.bl (!(lowW w || lowW u))), none, none, none, none] G := by
    rw [sSet_at, mF_at, hg0]
    simp
  cases hlow : (lowW w || lowW u) with
  | true =>
    rw [hlow] at s5
    have f1 := thinned_low g hh K1.ok K2.ok hlow
    have t1 := thunk_ex (mb := (mCall m_thinned [] (mCons (mVar 1) (mCons (mVar 2) (mCons (mVar 3) mNil))))) (τ := [some (.loc o), some (.loc h), some w, some u, none, some (.bl (!true)), none, none, none, none]) (G := G) (G1 := G) (c := 2) (b1 := false) (b2 := false) (b3 := true) hT (by simp [f1]) rfl rfl rfl rfl rfl
    have k1 := Keeps.app G [bls false false true]
    have e1 := last_get G (bls false false true)
    generalize hG1 : G ++ [bls false false true] = G1 at *
    have f2 := widened_low g (hh.keep k1) (okW_keep K1.ok k1) (okW_keep K2.ok k1) hlow
    have t2 := thunk_ex (mb := (mCall m_widened [] (mCons (mVar 1) (mCons (mVar 2) (mCons (mVar 3) mNil))))) (τ := [some (.loc o), some (.loc h), some w, some u, none, some (.bl (!true)), some (refusedW G.length), none, none, none]) (G := G1) (G1 := G1) (c := 2) (b1 := false) (b2 := false) (b3 := true) (k1.get hT) (by simp [f2]) rfl rfl rfl rfl rfl
    have k2 := Keeps.app G1 [bls false false true]
    have e2 := last_get G1 (bls false false true)
    generalize hG2 : G1 ++ [bls false false true] = G2 at *
    have k3 := Keeps.app G2 [bls false false true]
    have e3 := last_get G2 (bls false false true)
    have q := refused_eqT (k3.get (k2.get e1)) (k3.get e2) e3
    have hrep : ∀ (w : W) (G : GH), fMul (.tmp [w]) (.val (.int 2)) G = .ok (.tmp [w, w]) G := fun w G => rfl
    refine ⟨G2 ++ [bls false false true], (k1.trans k2).trans k3, ?_⟩
    refine (seq_nx s5).trans ?_
    refine (seq_nx (τ1 := [some (.loc o), some (.loc h), some w, some u, none, some (.bl (!true)), some (refusedW G.length), none, none, none]) (G1 := G1) (by
      rw [sSet_at, mF_at]
      show ((mThunk 0 _ 3 t_law_refused _ _ G).bind force).toS _ _ = _
      rw [t1]
      simp)).trans ?_
    refine (seq_nx (τ1 := [some (.loc o), some (.loc h), some w, some u, none, some (.bl (!true)), some (refusedW G.length), some (refusedW G1.length), none, none]) (G1 := G2) (by
      rw [sSet_at, mF_at, t2]
      simp)).trans ?_
    refine (seq_yes (G1 := G2) (by simp)).trans ?_
    simp [hrep, q]
  | false =>
    rw [hlow] at s5
    rw [Bool.or_eq_false_iff] at hlow
    cases K1 with
    | low _ z => rw [hlow.1] at z; cases z
    | @nat a ha ba =>
    cases K2 with
    | low _ z => rw [hlow.2] at z; cases z
    | @nat d hd bd =>
    have gT := thin_good (a := a) (d := d) g
    obtain ⟨n1, G1, r1, N1⟩ := thinned_good g hh ha hd
    have t1 := thunk_ok (mb := (mCall m_thinned [] (mCons (mVar 1) (mCons (mVar 2) (mCons (mVar 3) mNil))))) (τ := [some (.loc o), some (.loc h), some (.int a), some (.int d), none, some (.bl (!false)), none, none, none, none]) (G := G) (G1 := G1) (w := .loc n1) hT (by simp [r1])
    have s6 : sSet 6 tellThin [some (.loc o), some (.loc h), some (.int a), some (.int d), none, some (.bl (!false)), none, none, none, none] G = .nx [some (.loc o), some (.loc h), some (.int a), some (.int d), none, some (.bl (!false)), some (.loc n1), none, none, none] G1 := by
      rw [sSet_at, mF_at]
      show ((mThunk 0 _ 3 t_law_refused _ _ G).bind force).toS _ _ = _
      rw [t1]
      simp
    have hT1 := N1.keep.get hT
    have hp1 := hp.keep N1.keep
    have hh1 := hh.keep N1.keep
    by_cases hf : wide * a ≤ 24 ∧ p.length * d ≤ 24
    · obtain ⟨c1, c2⟩ := hf
      have gW := widen_good g ha hd c1 c2
      obtain ⟨n2, G2, r2, N2⟩ := widened_good g hh1 ha hd c1 c2 ba bd
      have t2 := thunk_ok (mb := (mCall m_widened [] (mCons (mVar 1) (mCons (mVar 2) (mCons (mVar 3) mNil))))) (τ := [some (.loc o), some (.loc h), some (.int a), some (.int d), none, some (.bl (!false)), some (.loc n1), none, none, none]) (G := G1) (G1 := G2) (w := .loc n2) hT1 (by simp [r2])
      obtain ⟨n3, G3, r3, N3⟩ := law_thin_eq g (hp1.keep N2.keep) ha hd
      have l3 := (like_after gT (N1.grow N2.keep) N3).1
      obtain ⟨G4, r4, k4, len4, o4⟩ := mark_under gT N1 (N2.keep.trans N3.keep)
      obtain ⟨B, kB, NB⟩ := (N2.grow N3.keep).base k4 len4 N1.keep.len o4
      have hp4 := hp.keep k4
      have hl4 := pic_len hp4
      obtain ⟨m0, w1, w2, _⟩ := pic_wide hp4 g
      have p1 := mul_small g.w1 ba G4
      have p2 := mul_small g.h1 bd G4
      have q1 : ¬ ((24 : Int) < ((wide * a : Nat) : Int)) := by omega
      have q2 : ¬ ((24 : Int) < ((p.length * d : Nat) : Int)) := by omega
      obtain ⟨s8, G5, r5, N5⟩ := sr_due (s1 := some (.loc h)) (s5 := some (.bl (!false))) (s6 := some (.loc n1)) (s7 := some (.loc n2)) g hp4 ha hd c1 c2 ba bd
      have l5 := (like_after gW NB N5).1
      obtain ⟨n6, G6, r6, N6⟩ := thinned_good gW (NB.pic.keep N5.keep) ha hd
      rw [thin_widen g ha hd] at N6
      have l6 := like_new g N6 (hp4.keep N5.keep)
      obtain ⟨G7, k7, r7⟩ := marked_new gW (NB.grow (N5.keep.trans N6.keep))
      have k8 := kB.trans k7
      have e8 := (hh.keep k8).eq (hp.keep k8)
      rw [decide_eq_true rfl] at e8
      refine ⟨G7, k8, ?_⟩
      refine (seq_nx s5).trans ?_
      refine (seq_nx s6).trans ?_
      refine (seq_nx (τ1 := [some (.loc o), some (.loc h), some (.int a), some (.int d), none, some (.bl (!false)), some (.loc n1), some (.loc n2), none, none]) (G1 := G2) (by
        rw [sSet_at, mF_at, t2]
        simp)).trans ?_
      refine (seq_no (G1 := G2) (by simp)).trans ?_
      refine (seq_no (G1 := G3) (by simp [r3, l3])).trans ?_
      refine (seq_nx (τ1 := [some (.loc o), some (.loc h), some (.int a), some (.int d), none, some (.bl (!false)), some (.loc n1), some (.loc n2), none, none]) (G1 := G4) (by simp [r4])).trans ?_
      refine (seq_no (G1 := G4) (by
        generalize ((wide * a : Nat) : Int) = P1 at *
        generalize ((p.length * d : Nat) : Int) = P2 at *
        simp [hl4, w1, w2, p1, p2, q1, q2])).trans ?_
      refine (seq_nx (τ1 := [some (.loc o), some (.loc h), some (.int a), some (.int d), some (.loc G4.length), some (.bl (!false)), some (.loc n1), some (.loc n2), none, none]) (G1 := G4 ++ [.lst []]) (by simp)).trans ?_
      refine (seq_nx r5).trans ?_
      refine (seq_no (G1 := G6) (by simp [l5, r6, l6])).trans ?_
      simp [r7, e8]
    · have f2 := widened_far g hh1 ha hd ba bd hf
      have t2 := thunk_ex (mb := (mCall m_widened [] (mCons (mVar 1) (mCons (mVar 2) (mCons (mVar 3) mNil))))) (τ := [some (.loc o), some (.loc h), some (.int a), some (.int d), none, some (.bl (!false)), some (.loc n1), none, none, none]) (G := G1) (G1 := G1) (c := 2) (b1 := false) (b2 := false) (b3 := true) hT1 (by simp [f2]) rfl rfl rfl rfl rfl
      have k2 := Keeps.app G1 [bls false false true]
      have e2 := last_get G1 (bls false false true)
      generalize hG2 : G1 ++ [bls false false true] = G2 at *
      obtain ⟨n3, G3, r3, N3⟩ := law_thin_eq g (hp1.keep k2) ha hd
      have l3 := (like_after gT (N1.grow k2) N3).1
      obtain ⟨G4, r4, k4, len4, o4⟩ := mark_under gT N1 (k2.trans N3.keep)
      have e4 : G4[G1.length]? = some (bls false false true) := by
        rw [o4 _ (Nat.le_refl _)]
        exact N3.keep.get e2
      have hp4 := hp.keep k4
      have hl4 := pic_len hp4
      obtain ⟨m0, w1, w2, _⟩ := pic_wide hp4 g
      have p1 := mul_small g.w1 ba G4
      have p2 := mul_small g.h1 bd G4
      have k5 := Keeps.app G4 [bls false false true]
      have q := refused_eq (k5.get e4) (last_get G4 (bls false false true))
      refine ⟨G4 ++ [bls false false true], k4.trans k5, ?_⟩
      refine (seq_nx s5).trans ?_
      refine (seq_nx s6).trans ?_
      refine (seq_nx (τ1 := [some (.loc o), some (.loc h), some (.int a), some (.int d), none, some (.bl (!false)), some (.loc n1), some (refusedW G1.length), none, none]) (G1 := G2) (by
        rw [sSet_at, mF_at, t2]
        simp)).trans ?_
      refine (seq_no (G1 := G2) (by simp)).trans ?_
      refine (seq_no (G1 := G3) (by simp [r3, l3])).trans ?_
      refine (seq_nx (τ1 := [some (.loc o), some (.loc h), some (.int a), some (.int d), none, some (.bl (!false)), some (.loc n1), some (refusedW G1.length), none, none]) (G1 := G4) (by simp [r4])).trans ?_
      refine (seq_yes (G1 := G4) ?_).trans ?_
      · by_cases z1 : wide * a ≤ 24
        · have z2 : (24 : Int) < ((p.length * d : Nat) : Int) := by
            have : ¬ p.length * d ≤ 24 := fun z => hf ⟨z1, z⟩
            omega
          have z3 : ¬ ((24 : Int) < ((wide * a : Nat) : Int)) := by omega
          generalize ((wide * a : Nat) : Int) = P1 at *
          generalize ((p.length * d : Nat) : Int) = P2 at *
          simp [hl4, w1, w2, p1, p2, z2, z3]
        · have z3 : (24 : Int) < ((wide * a : Nat) : Int) := by omega
          generalize ((wide * a : Nat) : Int) = P1 at *
          simp [w1, w2, p1, z3]
      · simp [q]
end Lk09
set_option Elab.async false
set_option linter.all false
set_option maxRecDepth 100000
set_option maxHeartbeats 4000000
namespace Lk09
open PySem PySem.Spec PyProof.Rows L2 Sy
/-! the law -/
theorem refused_ne {G : GH} {n m : Nat} {b1 b2 b3 : Bool} (h : G[n]? = some (bls b1 b2 b3)) (h2 : G[m]? = some (bls b1 b2 b3)) : fNe (.val (refusedW n)) (.val (.tup [.str "refused", .loc m, .bl true])) G = .ok (.val (.bl false)) G := by
  have e1 : toDT G (.val (refusedW n)) = some (.tuple [.str "refused", .list [.bool b1, .bool b2, .bool b3], .bool true]) := refused_dat h 6
  have e2 : toDT G (.val (refusedW m)) = some (.tuple [.str "refused", .list [.bool b1, .bool b2, .bool b3], .bool true]) := refused_dat h2 6
  exact ne_same e1 e2 (by rfl)
theorem refused_eq3 {G : GH} {L n1 n2 n3 m : Nat} {b1 b2 b3 : Bool} (hL : G[L]? = some (.lst [refusedW n1, refusedW n2, refusedW n3])) (h1 : G[n1]? = some (bls b1 b2 b3)) (h2 : G[n2]? = some (bls b1 b2 b3)) (h3 : G[n3]? = some (bls b1 b2 b3)) (hm : G[m]? = some (bls b1 b2 b3)) : fEq (.val (.loc L)) (.tmp [refusedW m, refusedW m, refusedW m]) G = .ok (.val (.bl true)) G := by
  have e1 : toDT G (.val (.loc L)) = some (.list [.tuple [.str "refused", .list [.bool b1, .bool b2, .bool b3], .bool true], .tuple [.str "refused", .list [.bool b1, .bool b2, .bool b3], .bool true], .tuple [.str "refused", .list [.bool b1, .bool b2, .bool b3], .bool true]]) := by
    have e3 : rdw G (.loc L) = some [refusedW n1, refusedW n2, refusedW n3] := by simp [hL]
    show ((rdw G (.loc L)).bind fun ws => (mapO (toD 8 G) ws).map PyData.list) = _
    rw [e3, Option.bind_some, mapO_cons, mapO_cons, mapO_cons, mapO_nil, refused_dat h1 5, refused_dat h2 5, refused_dat h3 5]
    rfl
  have e2 : toDT G (.tmp [refusedW m, refusedW m, refusedW m]) = some (.list [.tuple [.str "refused", .list [.bool b1, .bool b2, .bool b3], .bool true], .tuple [.str "refused", .list [.bool b1, .bool b2, .bool b3], .bool true], .tuple [.str "refused", .list [.bool b1, .bool b2, .bool b3], .bool true]]) := by
    show (mapO (toD 8 G) [refusedW m, refusedW m, refusedW m]).map PyData.list = _
    rw [mapO_cons, mapO_cons, mapO_cons, mapO_nil, refused_dat hm 5]
    rfl
  exact eq_same e1 e2 (by rfl)
noncomputable abbrev lwCut : M T := (mCall m_cut_out [] (mCons (mVar 6) (mCons (mBin fIx (mVar 7) (mC (.int 0))) (mCons (mBin fIx (mVar 7) (mC (.int 1))) (mCons (mBin fIx (mVar 7) (mC (.int 2))) (mCons (mBin fIx (mVar 7) (mC (.int 3))) mNil))))))
noncomputable abbrev lwTurn : MS := (sSeq (sSet 5 (mThunk 1 "law.<locals>.<lambda>" 3 t_law_refused lwCut)) (sIf (mB (mBin fIs (mVar 4) (mC .non))) (sIf (mB (mBin fNe (mVar 5) (mTup (mCons (mC (.str "refused")) (mCons (mLst (mCons (mC (.bl false)) (mCons (mC (.bl true)) (mCons (mC (.bl false)) mNil)))) (mCons (mC (.bl true)) mNil)))))) (sRet (mC (.bl false))) sNext) (sIf (mNot (mTru (mCall m_law_is_like [] (mCons (mVar 5) (mCons (mVar 4) mNil))))) (sRet (mC (.bl false))) (sDrop (mCall m_law_marked [] (mCons (mVar 5) mNil))))))
theorem turn_bad {G : GH} {o h L : Nat} {w0 w1 w2 w3 S : W} {s5 s10 : Option W} {p : List (List Int)} {wide : Nat} (g : Good p wide) (hT : G[1]? = some (.tb 1 "law.<locals>.<lambda>")) (hh : PicAt G h p) (hL : G[L]? = some (.lst [w0, w1, w2, w3])) (k0 : okW G w0) (k1 : okW G w1) (k2 : okW G w2) (k3 : okW G w3) (hb : ¬ CutB p wide w0 w1 w2 w3) :
    ∃ (t5 : Option W) (G' : GH), Sy.Keeps G G' ∧ lwTurn [some S, none, none, none, some .non, s5, some (.loc h), some (.loc L), some (.loc o), none, s10] G = .nx [some S, none, none, none, some .non, t5, some (.loc h), some (.loc L), some (.loc o), none, s10] G' := by
  have f := cut_out_bad g hh k0 k1 k2 k3 hb
  have i0 := fIx_loc (k := 0) hL rfl
  have i1 := fIx_loc (k := 1) hL rfl
  have i2 := fIx_loc (k := 2) hL rfl
  have i3 := fIx_loc (k := 3) hL rfl
  have t := thunk_ex (mb := lwCut) (τ := [some S, none, none, none, some .non, s5, some (.loc h), some (.loc L), some (.loc o), none, s10]) (G := G) (G1 := G) (c := 3) (b1 := false) (b2 := true) (b3 := false) hT (by
    rw [show ((0 : Nat) : Int) = 0 from rfl] at i0
    rw [show ((1 : Nat) : Int) = 1 from rfl] at i1
    rw [show ((2 : Nat) : Int) = 2 from rfl] at i2
    rw [show ((3 : Nat) : Int) = 3 from rfl] at i3
    simp [i0, i1, i2, i3, f]) rfl rfl rfl rfl rfl
  have k4 := Keeps.app G [bls false true false]
  have e4 := last_get G (bls false true false)
  generalize hG1 : G ++ [bls false true false] = G1 at *
  have k5 := Keeps.app G1 [bls false true false]
  have q := refused_ne (k5.get e4) (last_get G1 (bls false true false))
  refine ⟨some (refusedW G.length), G1 ++ [bls false true false], k4.trans k5, ?_⟩
  refine (seq_nx (τ1 := [some S, none, none, none, some .non, some (refusedW G.length), some (.loc h), some (.loc L), some (.loc o), none, s10]) (G1 := G1) (by
    rw [sSet_at, mF_at, t]
    simp)).trans ?_
  refine (if_yes (G1 := G1) (by
    have : ∀ G, fIs (.val .non) (.val .non) G = .ok (.val (.bl true)) G := fun _ => rfl
    simp [this])).trans ?_
  exact if_no (by simp [q])
theorem turn_good {G : GH} {o h L m l t a b : Nat} {S : W} {s5 s10 : Option W} {p : List (List Int)} {wide : Nat} (g : Good p wide) (hT : G[1]? = some (.tb 1 "law.<locals>.<lambda>")) (hh : PicAt G h p) (hL : G[L]? = some (.lst [.int l, .int t, .int a, .int b])) (hm : PicAt G m (cutP p l t a b)) (ha : 1 ≤ a) (hb : 1 ≤ b) (h1 : l + a ≤ wide) (h2 : t + b ≤ p.length) :
    ∃ (t5 : Option W) (G' : GH), Sy.Keeps G G' ∧ lwTurn [some S, none, none, none, some (.loc m), s5, some (.loc h), some (.loc L), some (.loc o), none, s10] G = .nx [some S, none, none, none, some (.loc m), t5, some (.loc h), some (.loc L), some (.loc o), none, s10] G' := by
  obtain ⟨n, G1, f, N⟩ := cut_out_good g hh ha hb h1 h2
  have gC := cut_good g ha hb h1 h2
  have i0 := fIx_loc (k := 0) hL rfl
  have i1 := fIx_loc (k := 1) hL rfl
  have i2 := fIx_loc (k := 2) hL rfl
  have i3 := fIx_loc (k := 3) hL rfl
  have ht := thunk_ok (mb := lwCut) (τ := [some S, none, none, none, some (.loc m), s5, some (.loc h), some (.loc L), some (.loc o), none, s10]) (G := G) (G1 := G1) (w := .loc n) hT (by
    rw [show ((0 : Nat) : Int) = 0 from rfl] at i0
    rw [show ((1 : Nat) : Int) = 1 from rfl] at i1
    rw [show ((2 : Nat) : Int) = 2 from rfl] at i2
    rw [show ((3 : Nat) : Int) = 3 from rfl] at i3
    simp [i0, i1, i2, i3, f])
  have l1 := like_new gC N hm
  obtain ⟨G2, k2, r2⟩ := marked_new gC N
  refine ⟨some (.loc n), G2, k2, ?_⟩
  refine (seq_nx (τ1 := [some S, none, none, none, some (.loc m), some (.loc n), some (.loc h), some (.loc L), some (.loc o), none, s10]) (G1 := G1) (by
    rw [sSet_at, mF_at, ht]
    simp)).trans ?_
  refine (if_else (G1 := G1) (by
    have : ∀ G, fIs (.val (.loc m)) (.val .non) G = .ok (.val (.bl false)) G := fun _ => rfl
    simp [this])).trans ?_
  refine (if_else (G1 := G1) (by simp [l1])).trans ?_
  simp [r2]
noncomputable abbrev lwTurns : MS := (sFor (miR (mCons (mC (.int 2)) mNil)) (gN 10) lwTurn)
theorem lw_turns {G : GH} {o h L : Nat} {w0 w1 w2 w3 S : W} {p : List (List Int)} {wide : Nat} (g : Good p wide) (hT : G[1]? = some (.tb 1 "law.<locals>.<lambda>")) (hp : PicAt G o p) (hh : PicAt G h p) (hL : G[L]? = some (.lst [w0, w1, w2, w3])) (K : PartK G w0 w1 w2 w3) :
    ∃ (t4 t5 t10 : Option W) (G' : GH), Sy.Keeps G G' ∧ ∀ rest : MS, sSeq (sSet 4 (mCall m_law_cut [] (mCons (mVar 8) (mCons (mVar 7) mNil)))) (sSeq lwTurns rest) [some S, none, none, none, none, none, some (.loc h), some (.loc L), some (.loc o), none, none] G = rest [some S, none, none, none, t4, t5, some (.loc h), some (.loc L), some (.loc o), none, t10] G' := by
  have hir : ∀ (τ : Sl) (G : GH), miR (mCons (mC (.int 2)) mNil) τ G = .ok ([.int 0, .int 1], []) G := fun τ G => rfl
  by_cases hb : CutB p wide w0 w1 w2 w3
  · obtain ⟨l, t, a, b, rfl, rfl, rfl, rfl, ha, hb, h1, h2⟩ := hb
    obtain ⟨m, G1, r1, N1⟩ := law_cut_good g hp hL ha hb h1 h2
    obtain ⟨x5, G2, k2, r2⟩ := turn_good (o := o) (S := S) (s5 := none) (s10 := some (.int 0)) g (N1.keep.get hT) (hh.keep N1.keep) (N1.keep.get hL) N1.pic ha hb h1 h2
    have K2 := N1.keep.trans k2
    obtain ⟨y5, G3, k3, r3⟩ := turn_good (o := o) (S := S) (s5 := x5) (s10 := some (.int 1)) g (K2.get hT) (hh.keep K2) (K2.get hL) (N1.pic.keep k2) ha hb h1 h2
    refine ⟨some (.loc m), y5, some (.int 1), G3, K2.trans k3, fun rest => ?_⟩
    refine (seq_nx (τ1 := [some S, none, none, none, some (.loc m), none, some (.loc h), some (.loc L), some (.loc o), none, none]) (G1 := G1) (by simp [r1])).trans ?_
    refine seq_nx ?_
    rw [lwTurns, sFor_at, hir, R.toS_ok, forL_nx still_nil rfl r2, forL_nx still_nil rfl r3, forL_end still_nil]
  · have r1 := law_cut_bad g hp hL K hb
    obtain ⟨k0, k1, k2', k3'⟩ := K.oks
    obtain ⟨x5, G2, k2, r2⟩ := turn_bad (o := o) (S := S) (s5 := none) (s10 := some (.int 0)) g hT hh hL k0 k1 k2' k3' hb
    obtain ⟨y5, G3, k3, r3⟩ := turn_bad (o := o) (S := S) (s5 := x5) (s10 := some (.int 1)) g (k2.get hT) (hh.keep k2) (k2.get hL) (okW_keep k0 k2) (okW_keep k1 k2) (okW_keep k2' k2) (okW_keep k3' k2) hb
    refine ⟨some .non, y5, some (.int 1), G3, k2.trans k3, fun rest => ?_⟩
    refine (seq_nx (τ1 := [some S, none, none, none, some .non, none, some (.loc h), some (.loc L), some (.loc o), none, none]) (G1 := G) (by simp [r1])).trans ?_
    refine seq_nx ?_
    rw [lwTurns, sFor_at, hir, R.toS_ok, forL_nx still_nil rfl r2, forL_nx still_nil rfl r3, forL_end still_nil]
theorem law_body (ns : List Int) : ∃ G, b_law [some (scr ns), none, none, none, none, none, none, none, none, none, none] (tabsG qs) = .rt (.bl true) G := by
  have cl6 : ∀ G, m_law_cell_at [scr ns, .int 6] G = .ok (.int (cellZ ns 6)) G := fun G => cell_eq ns 6 (by decide) G
  have cl7 : ∀ G, m_law_cell_at [scr ns, .int 7] G = .ok (.int (cellZ ns 7)) G := fun G => cell_eq ns 7 (by decide) G
  have cl8 : ∀ G, m_law_cell_at [scr ns, .int 8] G = .ok (.int (cellZ ns 8)) G := fun G => cell_eq ns 8 (by decide) G
  obtain ⟨p, wide, g, hp0⟩ := picture_eq ns 0 8 (by decide) (by decide) (by decide)
  have r1 := hp0 (tabsG qs)
  have n1 := newP_laid (tabsG qs) p
  have t0 : (tabsG qs)[0]? = some (.tb 0 "_law_steps_right.<locals>.<lambda>") := rfl
  have t1 : (tabsG qs)[1]? = some (.tb 1 "law.<locals>.<lambda>") := rfl
  generalize laidR (tabsG qs) (p.map iW) = G1 at *
  generalize (tabsG qs).length + p.length = o at *
  have hh24 := g.h1
  have hw24 := g.w1
  have r2 := copied_new n1.pic (by omega)
  have n2 := newP_laid G1 p
  generalize laidR G1 (p.map iW) = G2 at *
  generalize G1.length + p.length = h at *
  have K2 := n1.keep.trans n2.keep
  have hp2 := n1.pic.keep n2.keep
  have hl2 := pic_len hp2
  obtain ⟨m0, w1, w2, _⟩ := pic_wide hp2 g
  obtain ⟨L, G3, v0, v1, v2, v3, r3, k3, hL, KP⟩ := law_part_eq ns g.w0 g.h0 hw24 hh24 G2
  generalize cellZ ns 6 = z6 at *
  generalize cellZ ns 7 = z7 at *
  generalize cellZ ns 8 = z8 at *
  generalize scr ns = S at *
  have K3 := K2.trans k3
  obtain ⟨x4, x5, x10, G4, k4, r4⟩ := lw_turns (S := S) g (K3.get t1) (hp2.keep k3) (n2.pic.keep k3) hL KP
  have K4 := K3.trans k4
  have hp4 := (hp2.keep k3).keep k4
  have hh4 := (n2.pic.keep k3).keep k4
  obtain ⟨wa, G5, r5, k5, S5⟩ := law_step_eq z6 G4
  obtain ⟨wd, G6, r6, k6, S6⟩ := law_step_eq z7 G5
  have K6 := K4.trans (k5.trans k6)
  have hp6 := hp4.keep (k5.trans k6)
  have hh6 := hh4.keep (k5.trans k6)
  obtain ⟨G7, k7, r7⟩ := steps_right_eq (K6.get t0) g hp6 hh6 (S5.keep k6) S6
  have K7 := K6.trans k7
  have ne7 := (hh6.keep k7).ne (hp6.keep k7)
  rw [decide_eq_true rfl] at ne7
  obtain ⟨bad, hb, hbp⟩ := bad_pick z8 [some S, some wa, none, some wd, x4, x5, some (.loc h), some (.loc L), some (.loc o), none, x10] G7 (mCall m_law_cell_at [] (mCons (mVar 0) (mCons (mC (.int 8)) mNil))) (fun G => by simp [cl8])
  have k8 := Keeps.app G7 (badG G7.length)
  generalize G7 ++ badG G7.length = G8 at *
  have K8 := K7.trans k8
  have fb1 := cut_out_bad1 (hbp G8 (Keeps.refl _)) .non (.int 0) (.int 0) (.int 0)
  have th1 := thunk_ex (mb := (mCall m_cut_out [] (mCons (mVar 2) (mCons (mC .non) (mCons (mC (.int 0)) (mCons (mC (.int 0)) (mCons (mC (.int 0)) mNil))))))) (τ := [some S, some wa, some bad, some wd, x4, x5, some (.loc h), some (.loc L), some (.loc o), none, x10]) (G := G8) (G1 := G8) (c := 1) (b1 := true) (b2 := false) (b3 := false) (K8.get t1) (by simp [fb1]) rfl rfl rfl rfl rfl
  have k9 := Keeps.app G8 [bls true false false]
  have e9 := last_get G8 (bls true false false)
  have hl89 : G8.length < (G8 ++ [bls true false false]).length := by simp
  generalize G8 ++ [bls true false false] = G9 at *
  have fb2 := thinned_bad1 (hbp G9 k9) (.int 0) (.int 0)
  have th2 := thunk_ex (mb := (mCall m_thinned [] (mCons (mVar 2) (mCons (mC (.int 0)) (mCons (mC (.int 0)) mNil))))) (τ := [some S, some wa, some bad, some wd, x4, x5, some (.loc h), some (.loc L), some (.loc o), none, x10]) (G := G9) (G1 := G9) (c := 1) (b1 := true) (b2 := false) (b3 := false) ((K8.trans k9).get t1) (by simp [fb2]) rfl rfl rfl rfl rfl
  have k10 := Keeps.app G9 [bls true false false]
  have e10 := last_get G9 (bls true false false)
  have hl910 : G9.length < (G9 ++ [bls true false false]).length := by simp
  generalize G9 ++ [bls true false false] = G10 at *
  have k11 := Keeps.app G10 [GO.lst [refusedW G8.length, refusedW G9.length]]
  have e11 := last_get G10 (.lst [refusedW G8.length, refusedW G9.length])
  have s9 : sSet 9 (mLst (mCons (mThunk 1 "law.<locals>.<lambda>" 3 t_law_refused (mCall m_cut_out [] (mCons (mVar 2) (mCons (mC .non) (mCons (mC (.int 0)) (mCons (mC (.int 0)) (mCons (mC (.int 0)) mNil))))))) (mCons (mThunk 1 "law.<locals>.<lambda>" 3 t_law_refused (mCall m_thinned [] (mCons (mVar 2) (mCons (mC (.int 0)) (mCons (mC (.int 0)) mNil))))) mNil))) [some S, some wa, some bad, some wd, x4, x5, some (.loc h), some (.loc L), some (.loc o), none, x10] G8 = .nx [some S, some wa, some bad, some wd, x4, x5, some (.loc h), some (.loc L), some (.loc o), some (.loc G10.length), x10] (G10 ++ [GO.lst [refusedW G8.length, refusedW G9.length]]) := by
    rw [sSet_at, mF_at, mLst_at, mCons_at, th1]
    simp only [R.bind_ok, force_val]
    rw [mCons_at, th2]
    simp
  have hl1011 : G10.length < (G10 ++ [GO.lst [refusedW G8.length, refusedW G9.length]]).length := by simp
  generalize G10 ++ [GO.lst [refusedW G8.length, refusedW G9.length]] = G11 at *
  have fb3 := widened_bad1 (hbp G11 (k9.trans (k10.trans k11))) (.int 0) (.int 0)
  have th3 := thunk_ex (mb := (mCall m_widened [] (mCons (mVar 2) (mCons (mC (.int 0)) (mCons (mC (.int 0)) mNil))))) (τ := [some S, some wa, some bad, some wd, x4, x5, some (.loc h), some (.loc L), some (.loc o), some (.loc G10.length), x10]) (G := G11) (G1 := G11) (c := 1) (b1 := true) (b2 := false) (b3 := false) ((K8.trans (k9.trans (k10.trans k11))).get t1) (by simp [fb3]) rfl rfl rfl rfl rfl
  have k12 := Keeps.app G11 [bls true false false]
  have e12 := last_get G11 (bls true false false)
  generalize G11 ++ [bls true false false] = G12 at *
  have ha := app_one (i := 9) (S := mThunk 1 "law.<locals>.<lambda>" 3 t_law_refused (mCall m_widened [] (mCons (mVar 2) (mCons (mC (.int 0)) (mCons (mC (.int 0)) mNil))))) (τ := [some S, some wa, some bad, some wd, x4, x5, some (.loc h), some (.loc L), some (.loc o), some (.loc G10.length), x10]) (t := refusedW G11.length) rfl e11 (by rw [th3]; rfl) (k12.get e11) (by simp)
  have hset : [refusedW G8.length, refusedW G9.length] ++ [refusedW G11.length] = [refusedW G8.length, refusedW G9.length, refusedW G11.length] := rfl
  rw [hset] at ha
  have e13 : (G12.set G10.length (.lst [refusedW G8.length, refusedW G9.length, refusedW G11.length]))[G10.length]? = some (.lst [refusedW G8.length, refusedW G9.length, refusedW G11.length]) := set_at (k12.get e11)
  have a13 : (G12.set G10.length (.lst [refusedW G8.length, refusedW G9.length, refusedW G11.length]))[G8.length]? = some (bls true false false) := by
    rw [List.getElem?_set_ne (by omega)]
    exact k12.get (k11.get (k10.get e9))
  have b13 : (G12.set G10.length (.lst [refusedW G8.length, refusedW G9.length, refusedW G11.length]))[G9.length]? = some (bls true false false) := by
    rw [List.getElem?_set_ne (by omega)]
    exact k12.get (k11.get e10)
  have c13 : (G12.set G10.length (.lst [refusedW G8.length, refusedW G9.length, refusedW G11.length]))[G11.length]? = some (bls true false false) := by
    rw [List.getElem?_set_ne (by omega)]
    exact e12
  generalize G12.set G10.length (.lst [refusedW G8.length, refusedW G9.length, refusedW G11.length]) = G13 at *
  have k14 := Keeps.app G13 [bls true false false]
  have e14 := last_get G13 (bls true false false)
  have hfin := refused_eq3 (k14.get e13) (k14.get a13) (k14.get b13) (k14.get c13) e14
  have hrep : ∀ (w : W) (G : GH), fMul (.tmp [w]) (.val (.int 3)) G = .ok (.tmp [w, w, w]) G := fun w G => rfl
  refine ⟨G13 ++ [bls true false false], ?_⟩
  unfold b_law
  refine (seq_nx (τ1 := [some S, none, none, none, none, none, none, none, some (.loc o), none, none]) (G1 := G1) (by simp [r1])).trans ?_
  refine (seq_nx (τ1 := [some S, none, none, none, none, none, some (.loc h), none, some (.loc o), none, none]) (G1 := G2) (by simp [r2])).trans ?_
  refine (seq_nx (τ1 := [some S, none, none, none, none, none, some (.loc h), some (.loc L), some (.loc o), none, none]) (G1 := G3) (by simp [w1, w2, hl2, r3])).trans ?_
  refine (r4 _).trans ?_
  refine (seq_nx (τ1 := [some S, some wa, none, none, x4, x5, some (.loc h), some (.loc L), some (.loc o), none, x10]) (G1 := G5) (by simp [cl6, r5])).trans ?_
  refine (seq_nx (τ1 := [some S, some wa, none, some wd, x4, x5, some (.loc h), some (.loc L), some (.loc o), none, x10]) (G1 := G6) (by simp [cl7, r6])).trans ?_
  refine (seq_no (G1 := G7) (by simp [r7, ne7])).trans ?_
  refine (seq_nx (τ1 := [some S, some wa, some bad, some wd, x4, x5, some (.loc h), some (.loc L), some (.loc o), none, x10]) (G1 := G8) (by
    rw [sSet_at, mF_at]
    show ((badE _ _ G7).bind force).toS _ _ = _
    rw [hb]
    simp)).trans ?_
  refine (seq_nx s9).trans ?_
  refine (seq_nx ha).trans ?_
  unfold refusedW at hfin hrep
  simp [hrep, hfin]
theorem law_ok : ∀ ns : List Int, ns.length ≤ 63 → (∀ z ∈ ns, Builtin.Int.intBits z ≤ 1048576) → ∃ G, m_law [.frl (ns.map W.int)] (tabsG qs) = .ok (.bl true) G := by
  intro ns _ _
  obtain ⟨G, h⟩ := law_body ns
  exact ⟨G, mDef_ok [some (scr ns), none, none, none, none, none, none, none, none, none, none] h⟩
end Lk09
set_option Elab.async false
set_option linter.all false
set_option maxRecDepth 100000
set_option maxHeartbeats 4000000
namespace Lk09
open PySem PySem.Spec PyProof.Rows L2 Sy
def fb : List (PySem.W.Frag → Bool) := [itF names it, xtF names xt]
def fn0 : List He.DefD := [⟨("is_among", none), "is_among", "is_among", defArgs s_is_among, defBody s_is_among, defScope s_is_among, [], []⟩, ⟨("is_cell", none), "is_cell", "is_cell", defArgs s_is_cell, defBody s_is_cell, defScope s_is_cell, [], []⟩, ⟨("are_cells", none), "are_cells", "are_cells", defArgs s_are_cells, defBody s_are_cells, defScope s_are_cells, [], []⟩, ⟨("is_picture", none), "is_picture", "is_picture", defArgs s_is_picture, defBody s_is_picture, defScope s_is_picture, [], []⟩, ⟨("need_picture", none), "need_picture", "need_picture", defArgs s_need_picture, defBody s_need_picture, defScope s_need_picture, [], []⟩, ⟨("part_of", none), "part_of", "part_of", defArgs s_part_of, defBody s_part_of, defScope s_part_of, [], []⟩, ⟨("cut_out", none), "cut_out", "cut_out", defArgs s_cut_out, defBody s_cut_out, defScope s_cut_out, [], []⟩, ⟨("need_steps", none), "need_steps", "need_steps", defArgs s_need_steps, defBody s_need_steps, defScope s_need_steps, [], []⟩, ⟨("thinned", none), "thinned", "thinned", defArgs s_thinned, defBody s_thinned, defScope s_thinned, [], []⟩, ⟨("widened", none), "widened", "widened", defArgs s_widened, defBody s_widened, defScope s_widened, [], []⟩, ⟨("_law_cell_at", none), "_law_cell_at", "_law_cell_at", defArgs s_law_cell_at, defBody s_law_cell_at, defScope s_law_cell_at, [], []⟩, ⟨("_law_mixed", none), "_law_mixed", "_law_mixed", defArgs s_law_mixed, defBody s_law_mixed, defScope s_law_mixed, [], []⟩, ⟨("_law_picture", none), "_law_picture", "_law_picture", defArgs s_law_picture, defBody s_law_picture, defScope s_law_picture, [], []⟩, ⟨("_law_copied", none), "_law_copied", "_law_copied", defArgs s_law_copied, defBody s_law_copied, defScope s_law_copied, [], []⟩, ⟨("_law_marked", none), "_law_marked", "_law_marked", defArgs s_law_marked, defBody s_law_marked, defScope s_law_marked, [], []⟩, ⟨("_law_is_like", none), "_law_is_like", "_law_is_like", defArgs s_law_is_like, defBody s_law_is_like, defScope s_law_is_like, [], []⟩, ⟨("_law_refused", none), "_law_refused", "_law_refused", defArgs s_law_refused, defBody s_law_refused, defScope s_law_refused, [], []⟩, ⟨("_law_part", none), "_law_part", "_law_part", defArgs s_law_part, defBody s_law_part, defScope s_law_part, [], []⟩, ⟨("_law_is_number", none), "_law_is_number", "_law_is_number", defArgs s_law_is_number, defBody s_law_is_number, defScope s_law_is_number, [], []⟩, ⟨("_law_cut", none), "_law_cut", "_law_cut", defArgs s_law_cut, defBody s_law_cut, defScope s_law_cut, [], []⟩, ⟨("_law_step", none), "_law_step", "_law_step", defArgs s_law_step, defBody s_law_step, defScope s_law_step, [], []⟩, ⟨("_law_thin", none), "_law_thin", "_law_thin", defArgs s_law_thin, defBody s_law_thin, defScope s_law_thin, [], []⟩, ⟨("_law_steps_right", none), "_law_steps_right", "_law_steps_right", defArgs s_law_steps_right, defBody s_law_steps_right, defScope s_law_steps_right, [], []⟩, ⟨("law", none), "law", "law", defArgs s_law, defBody s_law, defScope s_law, [], []⟩]
def fn : List He.DefD := fn0
def fa0 : List He.Fa := [.glo "is_among", .glo "is_cell", .glo "are_cells", .glo "is_picture", .glo "need_picture", .glo "part_of", .glo "cut_out", .glo "need_steps", .glo "thinned", .glo "widened", .glo "_law_cell_at", .glo "_law_mixed", .glo "_law_picture", .glo "_law_copied", .glo "_law_marked", .glo "_law_is_like", .glo "_law_refused", .glo "_law_part", .glo "_law_is_number", .glo "_law_cut", .glo "_law_step", .glo "_law_thin", .glo "_law_steps_right", .glo "law", .free "ValueError", .free "all", .free "bool", .free "int", .free "isinstance", .free "len"]
def fa1 : List He.Fa := [.free "list", .free "range", .free "zip", .int "MOST_CELL" 15, .int "MOST_SIDE" 24, .glo "FolioError", .glo "BadPicture", .glo "BadSize", .glo "OutOfPlace", .exc "BadPicture", .exc "BadSize", .exc "OutOfPlace"]
def fa : List He.Fa := fa0 ++ fa1
abbrev tf : List He.Defn := [("_law_steps_right", none), ("law", none)]
theorem facts {P : Program} {w : World} {K : PySem.W.Frag} {h : Heap} {mg : Str → Option Value} {f : Addr} (X : K.In h) (G : h.Ns mainGlobals mg) (hfa : mg "law" = some (.ref f)) (c : He.SaysD fa fn K) (cb : (fb.all fun f => f K) = true) :
    ∃ fd : FuncData, (∀ (s : Shared) (v : Value), BindsTo s fd ⟨[v], []⟩ [("_law_script", v)]) ∧ ∀ base : Heap, K.In base → base.Ns mainGlobals mg → (∀ p ∈ tf, LamX.TabB base mg (He.cT K p).1 (He.cT K p).2) → FnOk P w K mg base (L2N.CX P w) 10 f fd ["_law_script"] (spM K (caT names tf K) 1 m_law) := by
  have T : Tx K mg (caT names tf K) := ⟨He.free_ok X G (c.fact 24 (f := .free "ValueError") rfl), He.free_ok X G (c.fact 25 (f := .free "all") rfl), He.free_ok X G (c.fact 26 (f := .free "bool") rfl), He.free_ok X G (c.fact 27 (f := .free "int") rfl), He.free_ok X G (c.fact 28 (f := .free "isinstance") rfl), He.free_ok X G (c.fact 29 (f := .free "len") rfl), He.free_ok X G (c.fact 30 (f := .free "list") rfl), He.free_ok X G (c.fact 31 (f := .free "range") rfl), He.free_ok X G (c.fact 32 (f := .free "zip") rfl), konW_intE (He.int_ok X G (c.fact 33 (f := .int "MOST_CELL" 15) rfl)), konW_intE (He.int_ok X G (c.fact 34 (f := .int "MOST_SIDE" 24) rfl)), clsT (cls_glo X G rfl (c.fact 35 (f := .glo "FolioError") rfl)) (by decide), clsT (cls_glo X G rfl (c.fact 36 (f := .glo "BadPicture") rfl)) (by decide), clsT (cls_glo X G rfl (c.fact 37 (f := .glo "BadSize") rfl)) (by decide), clsT (cls_glo X G rfl (c.fact 38 (f := .glo "OutOfPlace") rfl)) (by decide), exWT (exW_of X G rfl (c.fact 36 (f := .glo "BadPicture") rfl) (c.fact 39 (f := .exc "BadPicture") rfl)) (by decide), exWT (exW_of X G rfl (c.fact 37 (f := .glo "BadSize") rfl) (c.fact 40 (f := .exc "BadSize") rfl)) (by decide), exWT (exW_of X G rfl (c.fact 38 (f := .glo "OutOfPlace") rfl) (c.fact 41 (f := .exc "OutOfPlace") rfl)) (by decide), exsT (exs_of (fact_of cb 0) (fact_of cb 1)) (by decide +kernel)⟩
  obtain ⟨fd_is_among, F_is_among⟩ := c.def_ 0 (d := ⟨("is_among", none), "is_among", "is_among", defArgs s_is_among, defBody s_is_among, defScope s_is_among, [], []⟩) rfl
  have g_is_among := He.glo_ok X G (c.fact 0 (f := .glo "is_among") rfl)
  have b_is_among : Binds K fd_is_among P_is_among [] := F_is_among.bindsN fun _ _ _ _ _ _ us hl => match us, hl with | [_, _, _], _ => rfl
  obtain ⟨fd_is_cell, F_is_cell⟩ := c.def_ 1 (d := ⟨("is_cell", none), "is_cell", "is_cell", defArgs s_is_cell, defBody s_is_cell, defScope s_is_cell, [], []⟩) rfl
  have g_is_cell := He.glo_ok X G (c.fact 1 (f := .glo "is_cell") rfl)
  have b_is_cell : Binds K fd_is_cell P_is_cell [] := F_is_cell.bindsN fun _ _ _ _ _ _ us hl => match us, hl with | [_], _ => rfl
  obtain ⟨fd_are_cells, F_are_cells⟩ := c.def_ 2 (d := ⟨("are_cells", none), "are_cells", "are_cells", defArgs s_are_cells, defBody s_are_cells, defScope s_are_cells, [], []⟩) rfl
  have g_are_cells := He.glo_ok X G (c.fact 2 (f := .glo "are_cells") rfl)
  have b_are_cells : Binds K fd_are_cells P_are_cells [] := F_are_cells.bindsN fun _ _ _ _ _ _ us hl => match us, hl with | [_], _ => rfl
  obtain ⟨fd_is_picture, F_is_picture⟩ := c.def_ 3 (d := ⟨("is_picture", none), "is_picture", "is_picture", defArgs s_is_picture, defBody s_is_picture, defScope s_is_picture, [], []⟩) rfl
  have g_is_picture := He.glo_ok X G (c.fact 3 (f := .glo "is_picture") rfl)
  have b_is_picture : Binds K fd_is_picture P_is_picture [] := F_is_picture.bindsN fun _ _ _ _ _ _ us hl => match us, hl with | [_], _ => rfl
  obtain ⟨fd_need_picture, F_need_picture⟩ := c.def_ 4 (d := ⟨("need_picture", none), "need_picture", "need_picture", defArgs s_need_picture, defBody s_need_picture, defScope s_need_picture, [], []⟩) rfl
  have g_need_picture := He.glo_ok X G (c.fact 4 (f := .glo "need_picture") rfl)
  have b_need_picture : Binds K fd_need_picture P_need_picture [] := F_need_picture.bindsN fun _ _ _ _ _ _ us hl => match us, hl with | [_], _ => rfl
  obtain ⟨fd_part_of, F_part_of⟩ := c.def_ 5 (d := ⟨("part_of", none), "part_of", "part_of", defArgs s_part_of, defBody s_part_of, defScope s_part_of, [], []⟩) rfl
  have g_part_of := He.glo_ok X G (c.fact 5 (f := .glo "part_of") rfl)
  have b_part_of : Binds K fd_part_of P_part_of [] := F_part_of.bindsN fun _ _ _ _ _ _ us hl => match us, hl with | [_, _, _, _, _], _ => rfl
  obtain ⟨fd_cut_out, F_cut_out⟩ := c.def_ 6 (d := ⟨("cut_out", none), "cut_out", "cut_out", defArgs s_cut_out, defBody s_cut_out, defScope s_cut_out, [], []⟩) rfl
  have g_cut_out := He.glo_ok X G (c.fact 6 (f := .glo "cut_out") rfl)
  have b_cut_out : Binds K fd_cut_out P_cut_out [] := F_cut_out.bindsN fun _ _ _ _ _ _ us hl => match us, hl with | [_, _, _, _, _], _ => rfl
  obtain ⟨fd_need_steps, F_need_steps⟩ := c.def_ 7 (d := ⟨("need_steps", none), "need_steps", "need_steps", defArgs s_need_steps, defBody s_need_steps, defScope s_need_steps, [], []⟩) rfl
  have g_need_steps := He.glo_ok X G (c.fact 7 (f := .glo "need_steps") rfl)
  have b_need_steps : Binds K fd_need_steps P_need_steps [] := F_need_steps.bindsN fun _ _ _ _ _ _ us hl => match us, hl with | [_, _], _ => rfl
  obtain ⟨fd_thinned, F_thinned⟩ := c.def_ 8 (d := ⟨("thinned", none), "thinned", "thinned", defArgs s_thinned, defBody s_thinned, defScope s_thinned, [], []⟩) rfl
  have g_thinned := He.glo_ok X G (c.fact 8 (f := .glo "thinned") rfl)
  have b_thinned : Binds K fd_thinned P_thinned [] := F_thinned.bindsN fun _ _ _ _ _ _ us hl => match us, hl with | [_, _, _], _ => rfl
  obtain ⟨fd_widened, F_widened⟩ := c.def_ 9 (d := ⟨("widened", none), "widened", "widened", defArgs s_widened, defBody s_widened, defScope s_widened, [], []⟩) rfl
  have g_widened := He.glo_ok X G (c.fact 9 (f := .glo "widened") rfl)
  have b_widened : Binds K fd_widened P_widened [] := F_widened.bindsN fun _ _ _ _ _ _ us hl => match us, hl with | [_, _, _], _ => rfl
  obtain ⟨fd_law_cell_at, F_law_cell_at⟩ := c.def_ 10 (d := ⟨("_law_cell_at", none), "_law_cell_at", "_law_cell_at", defArgs s_law_cell_at, defBody s_law_cell_at, defScope s_law_cell_at, [], []⟩) rfl
  have g_law_cell_at := He.glo_ok X G (c.fact 10 (f := .glo "_law_cell_at") rfl)
  have b_law_cell_at : Binds K fd_law_cell_at P_law_cell_at [] := F_law_cell_at.bindsN fun _ _ _ _ _ _ us hl => match us, hl with | [_, _], _ => rfl
  obtain ⟨fd_law_mixed, F_law_mixed⟩ := c.def_ 11 (d := ⟨("_law_mixed", none), "_law_mixed", "_law_mixed", defArgs s_law_mixed, defBody s_law_mixed, defScope s_law_mixed, [], []⟩) rfl
  have g_law_mixed := He.glo_ok X G (c.fact 11 (f := .glo "_law_mixed") rfl)
  have b_law_mixed : Binds K fd_law_mixed P_law_mixed [] := F_law_mixed.bindsN fun _ _ _ _ _ _ us hl => match us, hl with | [_, _], _ => rfl
  obtain ⟨fd_law_picture, F_law_picture⟩ := c.def_ 12 (d := ⟨("_law_picture", none), "_law_picture", "_law_picture", defArgs s_law_picture, defBody s_law_picture, defScope s_law_picture, [], []⟩) rfl
  have g_law_picture := He.glo_ok X G (c.fact 12 (f := .glo "_law_picture") rfl)
  have b_law_picture : Binds K fd_law_picture P_law_picture [] := F_law_picture.bindsN fun _ _ _ _ _ _ us hl => match us, hl with | [_, _, _], _ => rfl
  obtain ⟨fd_law_copied, F_law_copied⟩ := c.def_ 13 (d := ⟨("_law_copied", none), "_law_copied", "_law_copied", defArgs s_law_copied, defBody s_law_copied, defScope s_law_copied, [], []⟩) rfl
  have g_law_copied := He.glo_ok X G (c.fact 13 (f := .glo "_law_copied") rfl)
  have b_law_copied : Binds K fd_law_copied P_law_copied [] := F_law_copied.bindsN fun _ _ _ _ _ _ us hl => match us, hl with | [_], _ => rfl
  obtain ⟨fd_law_marked, F_law_marked⟩ := c.def_ 14 (d := ⟨("_law_marked", none), "_law_marked", "_law_marked", defArgs s_law_marked, defBody s_law_marked, defScope s_law_marked, [], []⟩) rfl
  have g_law_marked := He.glo_ok X G (c.fact 14 (f := .glo "_law_marked") rfl)
  have b_law_marked : Binds K fd_law_marked P_law_marked [] := F_law_marked.bindsN fun _ _ _ _ _ _ us hl => match us, hl with | [_], _ => rfl
  obtain ⟨fd_law_is_like, F_law_is_like⟩ := c.def_ 15 (d := ⟨("_law_is_like", none), "_law_is_like", "_law_is_like", defArgs s_law_is_like, defBody s_law_is_like, defScope s_law_is_like, [], []⟩) rfl
  have g_law_is_like := He.glo_ok X G (c.fact 15 (f := .glo "_law_is_like") rfl)
  have b_law_is_like : Binds K fd_law_is_like P_law_is_like [] := F_law_is_like.bindsN fun _ _ _ _ _ _ us hl => match us, hl with | [_, _], _ => rfl
  obtain ⟨fd_law_refused, F_law_refused⟩ := c.def_ 16 (d := ⟨("_law_refused", none), "_law_refused", "_law_refused", defArgs s_law_refused, defBody s_law_refused, defScope s_law_refused, [], []⟩) rfl
  have g_law_refused := He.glo_ok X G (c.fact 16 (f := .glo "_law_refused") rfl)
  have b_law_refused : Binds K fd_law_refused P_law_refused [] := F_law_refused.bindsN fun _ _ _ _ _ _ us hl => match us, hl with | [_], _ => rfl
  obtain ⟨fd_law_part, F_law_part⟩ := c.def_ 17 (d := ⟨("_law_part", none), "_law_part", "_law_part", defArgs s_law_part, defBody s_law_part, defScope s_law_part, [], []⟩) rfl
  have g_law_part := He.glo_ok X G (c.fact 17 (f := .glo "_law_part") rfl)
  have b_law_part : Binds K fd_law_part P_law_part [] := F_law_part.bindsN fun _ _ _ _ _ _ us hl => match us, hl with | [_, _, _], _ => rfl
  obtain ⟨fd_law_is_number, F_law_is_number⟩ := c.def_ 18 (d := ⟨("_law_is_number", none), "_law_is_number", "_law_is_number", defArgs s_law_is_number, defBody s_law_is_number, defScope s_law_is_number, [], []⟩) rfl
  have g_law_is_number := He.glo_ok X G (c.fact 18 (f := .glo "_law_is_number") rfl)
  have b_law_is_number : Binds K fd_law_is_number P_law_is_number [] := F_law_is_number.bindsN fun _ _ _ _ _ _ us hl => match us, hl with | [_], _ => rfl
  obtain ⟨fd_law_cut, F_law_cut⟩ := c.def_ 19 (d := ⟨("_law_cut", none), "_law_cut", "_law_cut", defArgs s_law_cut, defBody s_law_cut, defScope s_law_cut, [], []⟩) rfl
  have g_law_cut := He.glo_ok X G (c.fact 19 (f := .glo "_law_cut") rfl)
  have b_law_cut : Binds K fd_law_cut P_law_cut [] := F_law_cut.bindsN fun _ _ _ _ _ _ us hl => match us, hl with | [_, _], _ => rfl
  obtain ⟨fd_law_step, F_law_step⟩ := c.def_ 20 (d := ⟨("_law_step", none), "_law_step", "_law_step", defArgs s_law_step, defBody s_law_step, defScope s_law_step, [], []⟩) rfl
  have g_law_step := He.glo_ok X G (c.fact 20 (f := .glo "_law_step") rfl)
  have b_law_step : Binds K fd_law_step P_law_step [] := F_law_step.bindsN fun _ _ _ _ _ _ us hl => match us, hl with | [_], _ => rfl
  obtain ⟨fd_law_thin, F_law_thin⟩ := c.def_ 21 (d := ⟨("_law_thin", none), "_law_thin", "_law_thin", defArgs s_law_thin, defBody s_law_thin, defScope s_law_thin, [], []⟩) rfl
  have g_law_thin := He.glo_ok X G (c.fact 21 (f := .glo "_law_thin") rfl)
  have b_law_thin : Binds K fd_law_thin P_law_thin [] := F_law_thin.bindsN fun _ _ _ _ _ _ us hl => match us, hl with | [_, _, _], _ => rfl
  obtain ⟨fd_law_steps_right, F_law_steps_right⟩ := c.def_ 22 (d := ⟨("_law_steps_right", none), "_law_steps_right", "_law_steps_right", defArgs s_law_steps_right, defBody s_law_steps_right, defScope s_law_steps_right, [], []⟩) rfl
  have g_law_steps_right := He.glo_ok X G (c.fact 22 (f := .glo "_law_steps_right") rfl)
  have b_law_steps_right : Binds K fd_law_steps_right P_law_steps_right [] := F_law_steps_right.bindsN fun _ _ _ _ _ _ us hl => match us, hl with | [_, _, _, _], _ => rfl
  obtain ⟨fd_law, F_law⟩ := c.def_ 23 (d := ⟨("law", none), "law", "law", defArgs s_law, defBody s_law, defScope s_law, [], []⟩) rfl
  have e := hfa.symm.trans (He.glo_ok X G (c.fact 23 (f := .glo "law") rfl))
  cases e
  have b := FunD.bindsA (ps := P_law) F_law fun _ _ _ _ _ _ us hl => match us, hl with | [_], _ => rfl
  refine ⟨fd_law, fun s v => b s [v] rfl, fun base _ _ hTB => ?_⟩
  have O_is_among := ok_is_among (P := P) (w := w) (base := base) F_is_among T
  have C_is_among : Callable P w K mg base (caT names tf K) 1 "is_among" P_is_among [] m_is_among := callable_mk g_is_among F_is_among.kp b_is_among O_is_among
  have O_is_cell := ok_is_cell (P := P) (w := w) (base := base) F_is_cell T C_is_among
  have C_is_cell : Callable P w K mg base (caT names tf K) 2 "is_cell" P_is_cell [] m_is_cell := callable_mk g_is_cell F_is_cell.kp b_is_cell O_is_cell
  have O_are_cells := ok_are_cells (P := P) (w := w) (base := base) F_are_cells T C_is_cell
  have C_are_cells : Callable P w K mg base (caT names tf K) 3 "are_cells" P_are_cells [] m_are_cells := callable_mk g_are_cells F_are_cells.kp b_are_cells O_are_cells
  have O_is_picture := ok_is_picture (P := P) (w := w) (base := base) F_is_picture T C_are_cells
  have C_is_picture : Callable P w K mg base (caT names tf K) 4 "is_picture" P_is_picture [] m_is_picture := callable_mk g_is_picture F_is_picture.kp b_is_picture O_is_picture
  have O_need_picture := ok_need_picture (P := P) (w := w) (base := base) F_need_picture T C_is_picture
  have C_need_picture : Callable P w K mg base (caT names tf K) 5 "need_picture" P_need_picture [] m_need_picture := callable_mk g_need_picture F_need_picture.kp b_need_picture O_need_picture
  have O_part_of := ok_part_of (P := P) (w := w) (base := base) F_part_of T
  have C_part_of : Callable P w K mg base (caT names tf K) 1 "part_of" P_part_of [] m_part_of := callable_mk g_part_of F_part_of.kp b_part_of O_part_of
  have O_cut_out := ok_cut_out (P := P) (w := w) (base := base) F_cut_out T C_is_among C_need_picture C_part_of
  have C_cut_out : Callable P w K mg base (caT names tf K) 6 "cut_out" P_cut_out [] m_cut_out := callable_mk g_cut_out F_cut_out.kp b_cut_out O_cut_out
  have O_need_steps := ok_need_steps (P := P) (w := w) (base := base) F_need_steps T
  have C_need_steps : Callable P w K mg base (caT names tf K) 1 "need_steps" P_need_steps [] m_need_steps := callable_mk g_need_steps F_need_steps.kp b_need_steps O_need_steps
  have O_thinned := ok_thinned (P := P) (w := w) (base := base) F_thinned T C_need_picture C_need_steps
  have C_thinned : Callable P w K mg base (caT names tf K) 6 "thinned" P_thinned [] m_thinned := callable_mk g_thinned F_thinned.kp b_thinned O_thinned
  have O_widened := ok_widened (P := P) (w := w) (base := base) F_widened T C_need_picture C_need_steps
  have C_widened : Callable P w K mg base (caT names tf K) 6 "widened" P_widened [] m_widened := callable_mk g_widened F_widened.kp b_widened O_widened
  have O_law_cell_at := ok_law_cell_at (P := P) (w := w) (base := base) F_law_cell_at T
  have C_law_cell_at : Callable P w K mg base (caT names tf K) 1 "_law_cell_at" P_law_cell_at [] m_law_cell_at := callable_mk g_law_cell_at F_law_cell_at.kp b_law_cell_at O_law_cell_at
  have O_law_mixed := ok_law_mixed (P := P) (w := w) (base := base) F_law_mixed T
  have C_law_mixed : Callable P w K mg base (caT names tf K) 1 "_law_mixed" P_law_mixed [] m_law_mixed := callable_mk g_law_mixed F_law_mixed.kp b_law_mixed O_law_mixed
  have O_law_picture := ok_law_picture (P := P) (w := w) (base := base) F_law_picture T C_law_cell_at C_law_mixed
  have C_law_picture : Callable P w K mg base (caT names tf K) 2 "_law_picture" P_law_picture [] m_law_picture := callable_mk g_law_picture F_law_picture.kp b_law_picture O_law_picture
  have O_law_copied := ok_law_copied (P := P) (w := w) (base := base) F_law_copied T
  have C_law_copied : Callable P w K mg base (caT names tf K) 1 "_law_copied" P_law_copied [] m_law_copied := callable_mk g_law_copied F_law_copied.kp b_law_copied O_law_copied
  have O_law_marked := ok_law_marked (P := P) (w := w) (base := base) F_law_marked T
  have C_law_marked : Callable P w K mg base (caT names tf K) 1 "_law_marked" P_law_marked [] m_law_marked := callable_mk g_law_marked F_law_marked.kp b_law_marked O_law_marked
  have O_law_is_like := ok_law_is_like (P := P) (w := w) (base := base) F_law_is_like T
  have C_law_is_like : Callable P w K mg base (caT names tf K) 1 "_law_is_like" P_law_is_like [] m_law_is_like := callable_mk g_law_is_like F_law_is_like.kp b_law_is_like O_law_is_like
  have C_law_refused : CallT P w K mg base (caT names tf K) 0 "_law_refused" "_law_deed" 3 t_law_refused := callT_mk g_law_refused F_law_refused b_law_refused sc_law_refused rfl (.inl rfl) rfl fun cdv A outer s H E fl ρ G r hr r0 act => ok_law_refused T cdv A outer s H E fl ρ G r hr r0 act
  have O_law_part := ok_law_part (P := P) (w := w) (base := base) F_law_part T C_law_cell_at
  have C_law_part : Callable P w K mg base (caT names tf K) 2 "_law_part" P_law_part [] m_law_part := callable_mk g_law_part F_law_part.kp b_law_part O_law_part
  have O_law_is_number := ok_law_is_number (P := P) (w := w) (base := base) F_law_is_number T
  have C_law_is_number : Callable P w K mg base (caT names tf K) 1 "_law_is_number" P_law_is_number [] m_law_is_number := callable_mk g_law_is_number F_law_is_number.kp b_law_is_number O_law_is_number
  have O_law_cut := ok_law_cut (P := P) (w := w) (base := base) F_law_cut T C_law_is_number
  have C_law_cut : Callable P w K mg base (caT names tf K) 2 "_law_cut" P_law_cut [] m_law_cut := callable_mk g_law_cut F_law_cut.kp b_law_cut O_law_cut
  have O_law_step := ok_law_step (P := P) (w := w) (base := base) F_law_step T
  have C_law_step : Callable P w K mg base (caT names tf K) 1 "_law_step" P_law_step [] m_law_step := callable_mk g_law_step F_law_step.kp b_law_step O_law_step
  have O_law_thin := ok_law_thin (P := P) (w := w) (base := base) F_law_thin T
  have C_law_thin : Callable P w K mg base (caT names tf K) 1 "_law_thin" P_law_thin [] m_law_thin := callable_mk g_law_thin F_law_thin.kp b_law_thin O_law_thin
  have O_law_steps_right := ok_law_steps_right (P := P) (w := w) (base := base) F_law_steps_right T (code_at F_law_steps_right) (hTB ("_law_steps_right", none) (by simp [tf])) C_law_is_like C_law_is_number C_law_marked C_law_refused C_law_thin C_thinned C_widened
  have C_law_steps_right : Callable P w K mg base (caT names tf K) 9 "_law_steps_right" P_law_steps_right [] m_law_steps_right := callable_mk g_law_steps_right F_law_steps_right.kp b_law_steps_right O_law_steps_right
  exact ok_law F_law T (code_at F_law) (hTB ("law", none) (by simp [tf])) C_law_cell_at C_law_copied C_law_cut C_law_is_like C_law_marked C_law_part C_law_picture C_law_refused C_law_step C_law_steps_right C_cut_out C_thinned C_widened
end Lk09
namespace Lk09
open PySem PySem.Spec PyProof.Rows L2 Sy
def loose0 : List PySem.Str := ["FolioError", "BadPicture", "BadSize", "OutOfPlace", "MOST_SIDE", "MOST_CELL", "is_among", "is_cell", "are_cells", "is_picture", "need_picture", "part_of", "cut_out", "need_steps", "thinned", "widened", "_law_cell_at", "_law_mixed", "_law_picture", "_law_copied", "_law_marked", "_law_is_like", "_law_refused", "_law_part", "_law_is_number", "_law_cut", "_law_step", "_law_thin", "_law_steps_right"]
def loose : List PySem.Str := loose0
abbrev R : PySem.W.OpenRow := PySem.W.OpenLaw.row PySem.Challenge.rw_cellfolio_k09_cut_and_thinned
abbrev hk : PySem.W.Hook := hookT 4 fa fn fb tf
noncomputable def ob (s : PySem.W.SharedT) : AlX := obsXT 4 fa fn fb tf (HandSHeadRun.getT s)
theorem ob_eq (s : PySem.W.SharedT) : ob s = hk.obs s.abs := obsXT_eq (HandSHeadRun.getT_eq s)
set_option maxHeartbeats 0 in
theorem run (w : World) : HandSHeadRun.RunEq R (PySem.W.view R.prog [33]) hk ob 40000 loose w := by
  intro os
  kernel_rfl
end Lk09
open PySem PySem.W PySem.Calls PyProof.Rows
set_option maxHeartbeats 0 in
theorem PySem.Challenge.cw_cellfolio_k09_cut_and_thinned_holds : PySem.Challenge.rw_cellfolio_k09_cut_and_thinned.Holds := by
  w_on; o_law
  refine HandSHeadRun.head_any (r := OpenLaw.row PySem.Challenge.rw_cellfolio_k09_cut_and_thinned) (q := view (OpenLaw.row PySem.Challenge.rw_cellfolio_k09_cut_and_thinned).prog [33]) (H := Lk09.hk) (ob := Lk09.ob) (M := 40000) (loose := Lk09.loose) (d := HandSHeadRun.topDef (OpenLaw.row PySem.Challenge.rw_cellfolio_k09_cut_and_thinned).prog 33) (kwd := []) Lk09.ob_eq
    (by kernel_rfl) (fun s => by kernel_rfl) Lk09.run (by kernel_rfl) (by kernel_rfl) (by kernel_rfl) (by rfl) (by first | assumption | decide +kernel) (by decide +kernel) ⟨rfl, rfl, rfl, rfl, rfl, by decide +kernel⟩ ?hw ?hc
  case hw => w_witness2
  case hc =>
    refine Sy.law_endT (l := PySem.Challenge.rw_cellfolio_k09_cut_and_thinned) (k := 10) (x := "_law_script") (names := Lk09.names) (qs := Lk09.qs) (m := Lk09.m_law) rfl (by kernel_rfl) ⟨rfl, by decide, by decide⟩ rfl ?F Lk09.law_ok
    intro w mg fv h K KX c cb _ G hmg0
    have hmg : mg ("law" : PySem.Str) = some (.ref fv) := by
      have e : (HandSHeadRun.topDef (OpenLaw.row PySem.Challenge.rw_cellfolio_k09_cut_and_thinned).prog 33).name = ("law" : PySem.Str) := by kernel_rfl
      rw [← e]
      exact hmg0
    exact Lk09.facts KX G hmg c cb
