import PyProof.Rows.All
import HandS.ForMost
import HandS.Exc
import HandS.ExcOwn
import HandS.TryOnly
import HandS.TryMany
import HandS.CallSlots
import HandS.ExcCtx
import HandS.HotCalls
import HandS.IsInst
import HandS.Style
import HandS.TupMul
import HandS.Zip
import PyProof.Draws
import HandS.WideBits
import HandS.Deep
import HandS.TupAny
import HandS.RevRange
import HandS.WordsExc
import HandS.More
import HandS.Defaults
import HandS.ExcIs
import HandS.HeadHook1
import HandS.RaiseMore
import HandS.Dict
import HandS.EndBits
import HandS.Head0
import HandS.Head1
import HandS.Head2
import HandS.HeadEnd
import HandS.HeadHook2
import KE.BitLaws
import KE.OsArith
import KE.RegMulBits
import PySem.Challenge.RW_cellfolio_k06_masks_by_places
set_option Elab.async false
set_option linter.all false
set_option maxRecDepth 100000
set_option maxHeartbeats 4000000
namespace Sy
open PySem PySem.Spec PyProof.Rows L2
abbrev SSt := L2.St

/-! own values: lists, dicts, instances are places in an own heap -/
inductive W where
  | non | bl (b : Bool) | int (i : Int) | str (x : Str) | tup (xs : List W) | loc (n : Nat) | ty (n : String) | cls (c : Nat) | frl (xs : List W) | exn (c : Nat) (a : Addr)

abbrev GK := List L2.Key
inductive GO where
  | lst (xs : List W) | dK (kvs : List (L2.Key × W)) | dT (kvs : List (GK × W)) | ins (c : Nat) (fs : List (Str × W))
abbrev GH := List GO
abbrev Sl := List (Option W)

inductive R (α : Type) where
  | ok (a : α) (G : GH) | ex (c : Nat) (fs : List (Str × W)) (G : GH) | bad

def R.bind {α β : Type} : R α → (α → GH → R β) → R β
  | .ok a G, k => k a G
  | .ex c fs G, _ => .ex c fs G
  | .bad, _ => .bad
@[simp] theorem R.bind_ok {α β : Type} (a : α) (G : GH) (k : α → GH → R β) : (R.ok a G).bind k = k a G := (rfl)
@[simp] theorem R.bind_ex {α β : Type} (c : Nat) (fs) (G : GH) (k : α → GH → R β) : (R.ex c fs G : R α).bind k = .ex c fs G := (rfl)
@[simp] theorem R.bind_bad {α β : Type} (k : α → GH → R β) : (R.bad : R α).bind k = .bad := (rfl)

/-- a value, or a list that nobody holds yet -/
inductive T where
  | val (w : W) | tmp (ws : List W)

/-- what never changes where it stands -/
def isStat : HO → Bool
  | .tup _ => true
  | .frz _ _ => true
  | _ => false
def Stay (H H' : Hp) : Prop := ∀ a u, isStat u = true → H a = some u → H' a = some u
theorem Stay.refl {H : Hp} : Stay H H := fun _ _ _ h => h
theorem Stay.trans {H H1 H2 : Hp} (a : Stay H H1) (b : Stay H1 H2) : Stay H H2 := fun x u s h => b x u s (a x u s h)
/-- a list that is locked for good, or written -/
def FzL (K : PySem.W.Frag) (H : Hp) (a : Addr) (xs : List V) : Prop := (∃ o, H a = some (.frz o (.lst xs))) ∨
  ∃ (o : Obj) (its : Array Value) (n : Nat), K.lookup a = some o ∧ o.cls = .type "list" ∧ o.dict = none ∧ o.data = .seq its n ∧ its.size ≤ sizeLine ∧ Vals xs its.toList
theorem FzL.sq {K : PySem.W.Frag} {H : Hp} {a : Addr} {xs : List V} (h : FzL K H a xs) : SqL K H a xs := by
  rcases h with ⟨o, h⟩ | h
  · exact .inl (.inr ⟨o, h⟩)
  · exact .inr h
theorem Stay.fz {K : PySem.W.Frag} {H H' : Hp} (t : Stay H H') {a : Addr} {xs : List V} (h : FzL K H a xs) : FzL K H' a xs := by
  rcases h with ⟨o, h⟩ | h
  · exact .inl ⟨o, t _ _ rfl h⟩
  · exact .inr h
theorem Stay.sqT {K : PySem.W.Frag} {H H' : Hp} (t : Stay H H') {a : Addr} {xs : List V} (h : SqT K H a xs) : SqT K H' a xs := by
  rcases h with h | h
  · rcases h with h | ⟨o, h⟩
    · exact .inl (.inl (t _ _ rfl h))
    · exact .inl (.inr ⟨o, t _ _ rfl h⟩)
  · exact .inr h
theorem Stay.laid {H : Hp} {p : Addr} {o : HO} (hp : H p = none) : Stay H (upd H p o) := fun a u _ h => by
  rw [upd_ne (ne_of_none h hp)]; exact h
theorem Stay.put {H : Hp} {p : Addr} {o : HO} (hp : ∀ u, H p = some u → isStat u = false) : Stay H (upd H p o) := fun a u s h => by
  have ne : a ≠ p := fun e => by subst e; rw [hp u h] at s; cases s
  rw [upd_ne ne]; exact h
theorem ns_lst {H : Hp} {p : Addr} {xs : List V} (h : H p = some (.lst xs)) : ∀ u, H p = some u → isStat u = false := fun u e => by
  rw [h] at e; cases e; rfl
/-! the relation to the layer's values -/
section
variable (K : PySem.W.Frag) (ca : Nat → Addr)
inductive RelW (ρ : List Addr) (H : Hp) : V → W → Prop
  | non : RelW ρ H .non .non
  | bl (b : Bool) : RelW ρ H (.bl b) (.bl b)
  | int (i : Int) : RelW ρ H (.int i) (.int i)
  | str (x : Str) : RelW ρ H (.str x) (.str x)
  | ty (n : String) : RelW ρ H (.ty n) (.ty n)
  | cls (c : Nat) : RelW ρ H (.ref (ca c)) (.cls c)
  | exn (c : Nat) (a : Addr) : RelW ρ H (.ref a) (.exn c a)
  | loc {n : Nat} {a : Addr} : ρ[n]? = some a → RelW ρ H (.ref a) (.loc n)
  | tup {a : Addr} {vs : List V} {ws : List W} : SqT K H a vs → vs.length = ws.length →
      (∀ (i : Nat) v w, vs[i]? = some v → ws[i]? = some w → RelW ρ H v w) → RelW ρ H (.ref a) (.tup ws)
  | frl {a : Addr} {vs : List V} {ws : List W} : FzL K H a vs → vs.length = ws.length →
      (∀ (i : Nat) v w, vs[i]? = some v → ws[i]? = some w → RelW ρ H v w) → RelW ρ H (.ref a) (.frl ws)

abbrev RelWs (ρ : List Addr) (H : Hp) (vs : List V) (ws : List W) : Prop := Paired (RelW K ca ρ H) vs ws

def ObjR (ρ : List Addr) (H : Hp) (a : Addr) : GO → Prop
  | .lst ws => ∃ vs, H a = some (.lst vs) ∧ RelWs K ca ρ H vs ws
  | .dK kvs => ∃ kvs', H a = some (.dK kvs') ∧ Paired (fun (p : L2.Key × V) (q : L2.Key × W) => p.1 = q.1 ∧ RelW K ca ρ H p.2 q.2) kvs' kvs
  | .dT kvs => ∃ kvs', H a = some (.dT kvs') ∧ Paired (fun (p : GK × V) (q : GK × W) => p.1 = q.1 ∧ RelW K ca ρ H p.2 q.2) kvs' kvs
  | .ins c fs => ∃ dx fs', H a = some (.ins (ca c) dx fs') ∧ Paired (fun (p : Str × V) (q : Str × W) => p.1 = q.1 ∧ RelW K ca ρ H p.2 q.2) fs' fs

structure Rep (ρ : List Addr) (G : GH) (H : Hp) : Prop where
  len : ρ.length = G.length
  nd : ρ.Nodup
  obj : ∀ (n : Nat) a o, ρ[n]? = some a → G[n]? = some o → ObjR K ca ρ H a o

/-- H0: the heap ahead of what made it -/
def RelT (H0 : Hp) (ρ : List Addr) (H : Hp) (v : V) : T → Prop
  | .val w => RelW K ca ρ H v w
  | .tmp ws => ∃ p vs, v = .ref p ∧ p ∉ ρ ∧ H0 p = none ∧ H p = some (.lst vs) ∧ RelWs K ca ρ H vs ws

def RelS (ρ : List Addr) (H : Hp) (σ : SSt) (τ : Sl) : Prop :=
  σ.length = τ.length ∧ ∀ (i : Nat) w, τ[i]? = some (some w) → ∃ v, σ[i]? = some (some v) ∧ RelW K ca ρ H v w

def ExF (ρ : List Addr) (H : Hp) : Option Addr → List (Str × W) → Prop
  | none, fs => fs = []
  | some d, fs => fs ≠ [] ∧ ∃ fs', H d = some (.xd fs') ∧ Paired (fun (p : Str × V) (q : Str × W) => p.1 = q.1 ∧ RelW K ca ρ H p.2 q.2) fs' fs
end

theorem mem_at {ρ : List Addr} {a : Addr} (h : a ∈ ρ) : ∃ n : Nat, ρ[n]? = some a := List.getElem?_of_mem h
structure Ext (ρ : List Addr) (H : Hp) (ρ' : List Addr) (H' : Hp) : Prop where
  pre : ∀ (n : Nat) a, ρ[n]? = some a → ρ'[n]? = some a
  new : ∀ a ∈ ρ', a ∈ ρ ∨ H a = none
  keep : ∀ b o, b ∉ ρ → H b = some o → H' b = some o

theorem Ext.refl {ρ : List Addr} {H : Hp} : Ext ρ H ρ H := ⟨fun _ _ h => h, fun _ h => .inl h, fun _ _ _ h => h⟩
theorem Ext.trans {ρ ρ1 ρ2 : List Addr} {H H1 H2 : Hp} (a : Ext ρ H ρ1 H1) (b : Ext ρ1 H1 ρ2 H2) : Ext ρ H ρ2 H2 where
  pre n x h := b.pre n x (a.pre n x h)
  new x h := by
    rcases b.new x h with z | z
    · exact a.new x z
    · by_cases hx : x ∈ ρ
      · exact .inl hx
      · cases e : H x with
        | none => exact .inr rfl
        | some o =>
          have q := a.keep x o hx e
          rw [z] at q; cases q
  keep x o hx e := by
    refine b.keep x o (fun hm => ?_) (a.keep x o hx e)
    rcases a.new x hm with z | z
    · exact hx z
    · rw [e] at z; cases z

section
variable {K : PySem.W.Frag} {ca : Nat → Addr} {ρ ρ' : List Addr} {G G' : GH} {H H' : Hp}

theorem Rep.at (r : Rep K ca ρ G H) {n : Nat} {a : Addr} (h : ρ[n]? = some a) : ∃ o, G[n]? = some o ∧ ObjR K ca ρ H a o := by
  have h1 : n < G.length := by
    rw [← r.len]; exact (List.getElem?_eq_some_iff.mp h).1
  exact ⟨_, List.getElem?_eq_getElem h1, r.obj n a _ h (List.getElem?_eq_getElem h1)⟩
theorem Rep.addr (r : Rep K ca ρ G H) {n : Nat} {o : GO} (h : G[n]? = some o) : ∃ a, ρ[n]? = some a ∧ ObjR K ca ρ H a o := by
  have h1 : n < ρ.length := by
    rw [r.len]; exact (List.getElem?_eq_some_iff.mp h).1
  exact ⟨_, List.getElem?_eq_getElem h1, r.obj n _ o (List.getElem?_eq_getElem h1) h⟩
/-- nothing that never changes has a place -/
theorem Rep.noStat (r : Rep K ca ρ G H) {a : Addr} {u : HO} (h : H a = some u) (s : isStat u = true) : a ∉ ρ := fun hm => by
  obtain ⟨n, hn⟩ := mem_at hm
  obtain ⟨o, _, ho⟩ := r.at hn
  cases o with
  | lst ws => obtain ⟨_, e, _⟩ := ho; rw [h] at e; cases e; cases s
  | dK ws => obtain ⟨_, e, _⟩ := ho; rw [h] at e; cases e; cases s
  | dT ws => obtain ⟨_, e, _⟩ := ho; rw [h] at e; cases e; cases s
  | ins c fs => obtain ⟨_, _, e, _⟩ := ho; rw [h] at e; cases e; cases s
theorem Rep.stay (r : Rep K ca ρ G H) (x : Ext ρ H ρ' H') : Stay H H' := fun a u s h => x.keep _ _ (r.noStat h s) h
theorem RelW.mono {v : V} {w : W} (h : RelW K ca ρ H v w) (hp : ∀ (n : Nat) a, ρ[n]? = some a → ρ'[n]? = some a) (ht : Stay H H') : RelW K ca ρ' H' v w := by
  induction h with
  | non => exact .non
  | bl b => exact .bl b
  | int i => exact .int i
  | str x => exact .str x
  | ty n => exact .ty n
  | cls c => exact .cls c
  | exn c a => exact .exn c a
  | loc e => exact .loc (hp _ _ e)
  | tup hs hl _ ih => exact .tup (ht.sqT hs) hl ih
  | frl hs hl _ ih => exact .frl (ht.fz hs) hl ih
theorem paired_imp {α β : Type} {P Q : α → β → Prop} : ∀ {xs : List α} {ys : List β}, Paired P xs ys → (∀ x y, P x y → Q x y) → Paired Q xs ys
  | _, _, .nil, _ => .nil
  | _, _, .cons r t, f => .cons (f _ _ r) (paired_imp t f)
theorem RelW.ext {v : V} {w : W} (h : RelW K ca ρ H v w) (r : Rep K ca ρ G H) (x : Ext ρ H ρ' H') : RelW K ca ρ' H' v w := h.mono x.pre (r.stay x)
theorem relWs_ext {vs : List V} {ws : List W} (h : RelWs K ca ρ H vs ws) (r : Rep K ca ρ G H) (x : Ext ρ H ρ' H') : RelWs K ca ρ' H' vs ws := paired_imp h fun _ _ q => q.ext r x
theorem RelT.ext {H0 : Hp} {v : V} {t : T} (h : RelT K ca H0 ρ H v t) (r : Rep K ca ρ G H) (x : Ext ρ H ρ' H') : RelT K ca H0 ρ' H' v t := by
  cases t with
  | val w => exact RelW.ext h r x
  | tmp ws =>
    obtain ⟨p, vs, e, hn, h0, hp, hv⟩ := h
    refine ⟨p, vs, e, fun hm => ?_, h0, x.keep _ _ hn hp, relWs_ext hv r x⟩
    rcases x.new p hm with z | z
    · exact hn z
    · rw [hp] at z; cases z
/-- seen from an earlier heap -/
theorem RelT.back {H0 : Hp} {ρ0 : List Addr} {v : V} {t : T} (h : RelT K ca H ρ' H' v t) (a : Ext ρ0 H0 ρ H) (b : Ext ρ H ρ' H') : RelT K ca H0 ρ' H' v t := by
  cases t with
  | val w => exact h
  | tmp ws =>
    obtain ⟨p, vs, e, hn, h0, hp, hv⟩ := h
    refine ⟨p, vs, e, hn, ?_, hp, hv⟩
    cases q : H0 p with
    | none => rfl
    | some o =>
      by_cases hm : p ∈ ρ0
      · obtain ⟨n, hn'⟩ := mem_at hm
        exact absurd (List.mem_of_getElem? (b.pre _ _ (a.pre _ _ hn'))) hn
      · have z := a.keep p o hm q
        rw [h0] at z; cases z
theorem RelS.ext {σ : SSt} {τ : Sl} (h : RelS K ca ρ H σ τ) (r : Rep K ca ρ G H) (x : Ext ρ H ρ' H') : RelS K ca ρ' H' σ τ :=
  ⟨h.1, fun i w e => let ⟨v, e1, q⟩ := h.2 i w e; ⟨v, e1, q.ext r x⟩⟩
theorem RelS.set {σ : SSt} {τ : Sl} (h : RelS K ca ρ H σ τ) (i : Nat) {v : V} {w : W} (q : RelW K ca ρ H v w) : RelS K ca ρ H (σ.set i (some v)) (τ.set i (some w)) := by
  refine ⟨by rw [List.length_set, List.length_set]; exact h.1, fun j u e => ?_⟩
  by_cases hj : i = j
  · subst hj
    by_cases hl : i < τ.length
    · rw [List.getElem?_set_self hl] at e
      cases e
      exact ⟨v, List.getElem?_set_self (by rw [h.1]; exact hl), q⟩
    · rw [List.getElem?_eq_none (by rw [List.length_set]; omega)] at e
      cases e
  · rw [List.getElem?_set_ne hj] at e ⊢
    exact h.2 j u e
theorem RelS.unset {σ : SSt} {τ : Sl} (h : RelS K ca ρ H σ τ) (i : Nat) : RelS K ca ρ H (σ.set i none) (τ.set i none) := by
  refine ⟨by rw [List.length_set, List.length_set]; exact h.1, fun j u e => ?_⟩
  by_cases hj : i = j
  · subst hj
    by_cases hl : i < τ.length
    · rw [List.getElem?_set_self hl] at e; cases e
    · rw [List.getElem?_eq_none (by rw [List.length_set]; omega)] at e
      cases e
  · rw [List.getElem?_set_ne hj] at e ⊢
    exact h.2 j u e
theorem relWs_get : ∀ {vs : List V} {ws : List W} {i : Nat} {w : W}, RelWs K ca ρ H vs ws → ws[i]? = some w → ∃ v, vs[i]? = some v ∧ RelW K ca ρ H v w
  | _, _, _, _, .nil, e => by simp at e
  | _, _, 0, _, .cons q _, e => by simp at e; subst e; exact ⟨_, rfl, q⟩
  | _, _, i + 1, w, .cons _ t, e => by
    obtain ⟨v, h1, h2⟩ := relWs_get (i := i) (w := w) t (by simpa using e)
    exact ⟨v, by simpa using h1, h2⟩
theorem relWs_of : ∀ {vs : List V} {ws : List W}, vs.length = ws.length → (∀ (i : Nat) v w, vs[i]? = some v → ws[i]? = some w → RelW K ca ρ H v w) → RelWs K ca ρ H vs ws
  | [], [], _, _ => .nil
  | [], _ :: _, h, _ => by simp at h
  | _ :: _, [], h, _ => by simp at h
  | v :: vs, w :: ws, h, f => .cons (f 0 v w rfl rfl) (relWs_of (by simpa using h) fun i x y e1 e2 => f (i + 1) x y (by simpa using e1) (by simpa using e2))
theorem paired_get {α β : Type} {P : α → β → Prop} : ∀ {xs : List α} {ys : List β}, Paired P xs ys → ∀ (i : Nat) x y, xs[i]? = some x → ys[i]? = some y → P x y
  | _, _, .nil, _, _, _, e, _ => by simp at e
  | _, _, .cons q _, 0, _, _, e, f => by simp at e f; subst e; subst f; exact q
  | _, _, .cons _ t, i + 1, x, y, e, f => paired_get t i x y (by simpa using e) (by simpa using f)
theorem RelW.tup' {a : Addr} {vs : List V} {ws : List W} (hs : SqT K H a vs) (h : RelWs K ca ρ H vs ws) : RelW K ca ρ H (.ref a) (.tup ws) :=
  .tup hs h.length fun i v w e1 e2 => paired_get h i v w e1 e2
theorem relW_frl {v : V} {ws : List W} (h : RelW K ca ρ H v (.frl ws)) : ∃ a vs, v = .ref a ∧ FzL K H a vs ∧ RelWs K ca ρ H vs ws := by
  cases h with
  | frl hs hl f => exact ⟨_, _, rfl, hs, relWs_of hl f⟩
theorem relW_tup {v : V} {ws : List W} (h : RelW K ca ρ H v (.tup ws)) : ∃ a vs, v = .ref a ∧ SqT K H a vs ∧ RelWs K ca ρ H vs ws := by
  cases h with
  | tup hs hl f => exact ⟨_, _, rfl, hs, relWs_of hl f⟩

theorem objR_mono {a : Addr} {o : GO} (h : ObjR K ca ρ H a o) (hp : ∀ (n : Nat) a, ρ[n]? = some a → ρ'[n]? = some a) (ht : Stay H H') (ha : H' a = H a) : ObjR K ca ρ' H' a o := by
  cases o with
  | lst ws => obtain ⟨vs, e, q⟩ := h; exact ⟨vs, ha.trans e, paired_imp q fun _ _ z => z.mono hp ht⟩
  | dK ws => obtain ⟨vs, e, q⟩ := h; exact ⟨vs, ha.trans e, paired_imp q fun _ _ z => ⟨z.1, z.2.mono hp ht⟩⟩
  | dT ws => obtain ⟨vs, e, q⟩ := h; exact ⟨vs, ha.trans e, paired_imp q fun _ _ z => ⟨z.1, z.2.mono hp ht⟩⟩
  | ins c fs => obtain ⟨dx, vs, e, q⟩ := h; exact ⟨dx, vs, ha.trans e, paired_imp q fun _ _ z => ⟨z.1, z.2.mono hp ht⟩⟩

/-- an object that is not in G was laid -/
theorem Ext.laid {p : Addr} {o : HO} (hp : H p = none) : Ext ρ H ρ (upd H p o) :=
  ⟨fun _ _ h => h, fun _ h => .inl h, fun b u _ e => by rw [upd_ne (ne_of_none e hp)]; exact e⟩
theorem Rep.fresh (r : Rep K ca ρ G H) {p : Addr} (hp : H p = none) : p ∉ ρ := fun hm => by
  obtain ⟨n, hn⟩ := mem_at hm
  obtain ⟨o, _, ho⟩ := r.at hn
  cases o with
  | lst ws => obtain ⟨_, e, _⟩ := ho; rw [hp] at e; cases e
  | dK ws => obtain ⟨_, e, _⟩ := ho; rw [hp] at e; cases e
  | dT ws => obtain ⟨_, e, _⟩ := ho; rw [hp] at e; cases e
  | ins c fs => obtain ⟨_, _, e, _⟩ := ho; rw [hp] at e; cases e
theorem Rep.laid (r : Rep K ca ρ G H) {p : Addr} {o : HO} (hp : H p = none) : Rep K ca ρ G (upd H p o) := by
  refine ⟨r.len, r.nd, fun n a u e1 e2 => objR_mono (r.obj n a u e1 e2) (fun _ _ h => h) (Stay.laid hp) (upd_ne fun e => ?_)⟩
  subst e
  exact r.fresh hp (List.mem_of_getElem? e1)
/-- a list that nobody held gets a place -/
theorem Rep.take (r : Rep K ca ρ G H) {p : Addr} {vs : List V} {ws : List W} (hn : p ∉ ρ) (hp : H p = some (.lst vs)) (q : RelWs K ca ρ H vs ws) : Rep K ca (ρ ++ [p]) (G ++ [.lst ws]) H := by
  have pre : ∀ (n : Nat) a, ρ[n]? = some a → (ρ ++ [p])[n]? = some a := fun n a e => by
    rw [List.getElem?_append_left (List.getElem?_eq_some_iff.mp e).1]; exact e
  refine ⟨by simp [r.len], ?_, fun n a o e1 e2 => ?_⟩
  · rw [List.nodup_append]
    refine ⟨r.nd, by simp, fun a ha b hb e => ?_⟩
    have : b = p := by simpa using hb
    exact hn (by rw [← this, ← e]; exact ha)
  · by_cases hl : n < ρ.length
    · rw [List.getElem?_append_left hl] at e1
      rw [List.getElem?_append_left (by rw [← r.len]; exact hl)] at e2
      exact objR_mono (r.obj n a o e1 e2) pre Stay.refl rfl
    · have hl2 : ρ.length ≤ n := Nat.le_of_not_lt hl
      rw [List.getElem?_append_right hl2] at e1
      rw [List.getElem?_append_right (by rw [← r.len]; exact hl2), ← r.len] at e2
      cases h0 : n - ρ.length with
      | zero =>
        rw [h0] at e1 e2
        simp at e1 e2
        subst e1; subst e2
        exact ⟨vs, hp, paired_imp q fun _ _ z => z.mono pre Stay.refl⟩
      | succ k =>
        rw [h0] at e1
        simp at e1
theorem Ext.take {H0 : Hp} {ρ0 : List Addr} {p : Addr} (x : Ext ρ0 H0 ρ H) (h0 : H0 p = none) : Ext ρ0 H0 (ρ ++ [p]) H :=
  ⟨fun n a e => by
    have e' := x.pre n a e
    rw [List.getElem?_append_left (List.getElem?_eq_some_iff.mp e').1]; exact e', fun a h => by
    rcases List.mem_append.mp h with h | h
    · exact x.new a h
    · have e : a = p := by simpa using h
      exact .inr (e ▸ h0), x.keep⟩
end
end Sy
set_option Elab.async false
set_option linter.all false
set_option maxRecDepth 100000
set_option maxHeartbeats 4000000
namespace Sy
open PySem PySem.Spec PyProof.Rows L2

/-! what is asked behind a computation -/
section
variable (K : PySem.W.Frag) (ca : Nat → Addr)
def Post {α : Type} (Wx : WX) (σ : SSt) (ρ : List Addr) (H : Hp) (P : α → GH → List Addr → Hp → Prop) : R α → Prop
  | .ok a G' => ∀ ρ' H', Ext ρ H ρ' H' → Rep K ca ρ' G' H' → P a G' ρ' H'
  | .ex c fs G' => ∀ ρ' H' d, Ext ρ H ρ' H' → Rep K ca ρ' G' H' → ExF K ca ρ' H' d fs → Wx (.ref (ca c)) d σ H'
  | .bad => False
end
section
variable {K : PySem.W.Frag} {ca : Nat → Addr} {Wx : WX} {σ : SSt} {ρ ρ1 : List Addr} {H H1 : Hp} {α β : Type} {P Q : α → GH → List Addr → Hp → Prop}
theorem Post.imp {r : R α} (h : Post K ca Wx σ ρ H P r) (f : ∀ a G' ρ' H', Ext ρ H ρ' H' → Rep K ca ρ' G' H' → P a G' ρ' H' → Q a G' ρ' H') : Post K ca Wx σ ρ H Q r := by
  cases r with
  | ok a G' => exact fun ρ' H' x r => f a G' ρ' H' x r (h ρ' H' x r)
  | ex c fs G' => exact h
  | bad => exact h
/-- seen from a later state -/
theorem Post.later {r : R α} (h : Post K ca Wx σ ρ H P r) (x : Ext ρ H ρ1 H1) : Post K ca Wx σ ρ1 H1 P r := by
  cases r with
  | ok a G' => exact fun ρ' H' y r => h ρ' H' (x.trans y) r
  | ex c fs G' => exact fun ρ' H' d y r e => h ρ' H' d (x.trans y) r e
  | bad => exact h
theorem Post.bind {r : R α} {k : α → GH → R β} {P : β → GH → List Addr → Hp → Prop} (h : Post K ca Wx σ ρ H P (r.bind k)) :
    Post K ca Wx σ ρ H (fun a G1 ρ1 H1 => Post K ca Wx σ ρ1 H1 P (k a G1)) r := by
  cases r with
  | ok a G' => exact fun ρ' H' x _ => Post.later h x
  | ex c fs G' => exact h
  | bad => exact h
/-- .. with where it is seen from -/
theorem Post.bindX {r : R α} {k : α → GH → R β} {P : β → GH → List Addr → Hp → Prop} (h : Post K ca Wx σ ρ H P (r.bind k)) :
    Post K ca Wx σ ρ H (fun a G1 ρ1 H1 => Ext ρ H ρ1 H1 ∧ Post K ca Wx σ ρ1 H1 P (k a G1)) r :=
  h.bind.imp fun _ _ _ _ x _ q => ⟨x, q⟩
end

abbrev M (α : Type) := Sl → GH → R α
section
variable (K : PySem.W.Frag) (ca : Nat → Addr)
/-- an expression's, a test's, an argument list's reading by a computation -/
def tE (Wx : WX) (m : M T) : TE := fun σ H Q => ∃ ρ G τ, Rep K ca ρ G H ∧ RelS K ca ρ H σ τ ∧ Post K ca Wx σ ρ H (fun t _ ρ' H' => ∀ v, RelT K ca H ρ' H' v t → Q v H') (m τ G)
def tT (Wx : WX) (m : M Bool) : TT := fun σ H Q => ∃ ρ G τ, Rep K ca ρ G H ∧ RelS K ca ρ H σ τ ∧ Post K ca Wx σ ρ H (fun b _ _ H' => Q b H') (m τ G)
def tA (Wx : WX) (m : M (List W)) : TA := fun σ H Q => ∃ ρ G τ, Rep K ca ρ G H ∧ RelS K ca ρ H σ τ ∧ Post K ca Wx σ ρ H (fun ws _ ρ' H' => ∀ vs, RelWs K ca ρ' H' vs ws → Q vs H') (m τ G)
end

/-- an outcome of statements -/
inductive RS where
  | nx (τ : Sl) (G : GH) | rt (w : W) (G : GH) | bk (τ : Sl) (G : GH) | ct (τ : Sl) (G : GH) | ex (c : Nat) (fs : List (Str × W)) (τ : Sl) (G : GH) | bad
abbrev MS := Sl → GH → RS
section
variable (K : PySem.W.Frag) (ca : Nat → Addr)
def PostS (Wx : WX) (D : Ends) (ρ : List Addr) (H : Hp) : RS → Prop
  | .nx τ G' => ∀ ρ' H' σ', Ext ρ H ρ' H' → Rep K ca ρ' G' H' → RelS K ca ρ' H' σ' τ → D.nx σ' H'
  | .bk τ G' => ∀ ρ' H' σ', Ext ρ H ρ' H' → Rep K ca ρ' G' H' → RelS K ca ρ' H' σ' τ → D.bk σ' H'
  | .ct τ G' => ∀ ρ' H' σ', Ext ρ H ρ' H' → Rep K ca ρ' G' H' → RelS K ca ρ' H' σ' τ → D.ct σ' H'
  | .rt w G' => ∀ ρ' H' v, Ext ρ H ρ' H' → Rep K ca ρ' G' H' → RelW K ca ρ' H' v w → D.rt v H'
  | .ex c fs τ G' => ∀ ρ' H' d σ', Ext ρ H ρ' H' → Rep K ca ρ' G' H' → RelS K ca ρ' H' σ' τ → ExF K ca ρ' H' d fs → Wx (.ref (ca c)) d σ' H'
  | .bad => False
def tS (Wx : WX) (m : MS) : TS := fun D σ H => ∃ ρ G τ, Rep K ca ρ G H ∧ RelS K ca ρ H σ τ ∧ PostS K ca Wx D ρ H (m τ G)
end
theorem PostS.later {K : PySem.W.Frag} {ca : Nat → Addr} {Wx : WX} {D : Ends} {ρ ρ1 : List Addr} {H H1 : Hp} {r : RS} (h : PostS K ca Wx D ρ H r) (x : Ext ρ H ρ1 H1) : PostS K ca Wx D ρ1 H1 r := by
  cases r with
  | nx τ G' => exact fun ρ' H' s y r => h ρ' H' s (x.trans y) r
  | bk τ G' => exact fun ρ' H' s y r => h ρ' H' s (x.trans y) r
  | ct τ G' => exact fun ρ' H' s y r => h ρ' H' s (x.trans y) r
  | rt w G' => exact fun ρ' H' s y r => h ρ' H' s (x.trans y) r
  | ex c fs τ G' => exact fun ρ' H' d s y r => h ρ' H' d s (x.trans y) r
  | bad => exact h

/-! weaker readings -/
theorem PE.weak {X : Cx} {e : Expr} {t t' : TE} (h : PE X e t) (f : ∀ σ H Q, t' σ H Q → t σ H Q) : PE X e t' := ⟨fun pins s σ H Q I q => h.run pins s σ H Q I (f σ H Q q)⟩
theorem PT.weak {X : Cx} {e : Expr} {t t' : TT} (h : PT X e t) (f : ∀ σ H Q, t' σ H Q → t σ H Q) : PT X e t' := ⟨fun pins s σ H Q I q => h.run pins s σ H Q I (f σ H Q q)⟩
theorem PA.weak {X : Cx} {e : List Expr} {t t' : TA} (h : PA X e t) (f : ∀ σ H Q, t' σ H Q → t σ H Q) : PA X e t' := ⟨fun pos pins s σ H Q I q => h.run pos pins s σ H Q I (f σ H Q q)⟩
theorem PS.weak {X : Cx} {e : Stmt} {t t' : TS} (h : PS X e t) (f : ∀ D σ H, t' D σ H → t D σ H) : PS X e t' := ⟨fun pins s σ H D I q => h.run pins s σ H D I (f D σ H q)⟩
theorem PSs.weak {X : Cx} {e : List Stmt} {t t' : TS} (h : PSs X e t) (f : ∀ D σ H, t' D σ H → t D σ H) : PSs X e t' := ⟨fun pins s σ H D I q => h.run pins s σ H D I (f D σ H q)⟩

/-! computations -/
def mVar (i : Nat) : M T := fun τ G => match τ[i]? with | some (some w) => .ok (.val w) G | _ => .bad
def mC (w : W) : M T := fun _ G => .ok (.val w) G
def mBin (f : T → T → GH → R T) (a b : M T) : M T := fun τ G => (a τ G).bind fun x G1 => (b τ G1).bind fun y G2 => f x y G2
def mUn (f : T → GH → R T) (a : M T) : M T := fun τ G => (a τ G).bind f
def force : T → GH → R W
  | .val w, G => .ok w G
  | .tmp ws, G => .ok (.loc G.length) (G ++ [.lst ws])
def mF (a : M T) : M W := fun τ G => (a τ G).bind force
def mNil : M (List W) := fun _ G => .ok [] G
def mCons (a : M T) (r : M (List W)) : M (List W) := fun τ G => ((a τ G).bind force).bind fun w G1 => (r τ G1).bind fun ws G2 => .ok (w :: ws) G2
def mLst (a : M (List W)) : M T := fun τ G => (a τ G).bind fun ws G1 => if ws.length ≤ 16777216 then .ok (.tmp ws) G1 else .bad
def mTup (a : M (List W)) : M T := fun τ G => (a τ G).bind fun ws G1 => if ws.length ≤ 16777216 then .ok (.val (.tup ws)) G1 else .bad
/-- a value that is True or False -/
def asB : T → GH → R Bool
  | .val (.bl b), G => .ok b G
  | _, _ => .bad
def mB (a : M T) : M Bool := fun τ G => (a τ G).bind asB
def mOfB (a : M Bool) : M T := fun τ G => (a τ G).bind fun b G1 => .ok (.val (.bl b)) G1
def mAnd (a b : M Bool) : M Bool := fun τ G => (a τ G).bind fun x G1 => if x then b τ G1 else .ok false G1
def mOr (a b : M Bool) : M Bool := fun τ G => (a τ G).bind fun x G1 => if x then .ok true G1 else b τ G1
def mNot (a : M Bool) : M Bool := fun τ G => (a τ G).bind fun x G1 => .ok (!x) G1
def mIf (c : M Bool) (a b : M T) : M T := fun τ G => (c τ G).bind fun x G1 => if x then a τ G1 else b τ G1

section
variable {X : Cx} {ca : Nat → Addr} {Wx : WX} {σ : SSt} {H : Hp} {ρ : List Addr} {G : GH} {τ : Sl}
/-- the step that all rules take -/
theorem tE.start {m : M T} {Q : VK} (r : Rep X.K ca ρ G H) (s : RelS X.K ca ρ H σ τ) (h : Post X.K ca Wx σ ρ H (fun t _ ρ' H' => ∀ v, RelT X.K ca H ρ' H' v t → Q v H') (m τ G)) : tE X.K ca Wx m σ H Q := ⟨ρ, G, τ, r, s, h⟩
theorem tE.seq {α : Type} {m : M T} {k : T → GH → R α} {P : α → GH → List Addr → Hp → Prop} {Q : VK} (r : Rep X.K ca ρ G H) (s : RelS X.K ca ρ H σ τ) (h : Post X.K ca Wx σ ρ H P ((m τ G).bind k))
    (hk : ∀ t G1 ρ1 H1 v, Ext ρ H ρ1 H1 → Rep X.K ca ρ1 G1 H1 → RelS X.K ca ρ1 H1 σ τ → RelT X.K ca H ρ1 H1 v t → Post X.K ca Wx σ ρ1 H1 P (k t G1) → Q v H1) : tE X.K ca Wx m σ H Q :=
  ⟨ρ, G, τ, r, s, h.bind.imp fun t G1 ρ1 H1 x r1 q v rv => hk t G1 ρ1 H1 v x r1 (s.ext r x) rv q⟩
theorem s_var {i : Nat} {x : Str} {pos : Pos} (hN : X.N[i]? = some x) (hv : Vis X.env.scope x) (hd : (x == ("__debug__" : Str)) = false := by decide) (hcd : (x == ("__classdict__" : Str)) = false := by decide) : PE X (.Name x pos) (tE X.K ca Wx (mVar i)) := by
  refine PE.weak (pe_var hN hv hd hcd) fun σ H Q ⟨ρ, G, τ, r, s, h⟩ => ?_
  unfold mVar at h
  cases e : τ[i]? with
  | none => rw [e] at h; exact h.elim
  | some o =>
    cases o with
    | none => rw [e] at h; exact h.elim
    | some w =>
      rw [e] at h
      obtain ⟨v, e1, q⟩ := s.2 i w e
      exact ⟨v, e1, h ρ H .refl r v q⟩
theorem s_const {e : Expr} {v : V} {w : W} (h : PE X e (tC v)) (hw : ∀ ρ H, RelW X.K ca ρ H v w) : PE X e (tE X.K ca Wx (mC w)) :=
  PE.weak h fun σ H Q ⟨ρ, G, τ, r, s, q⟩ => q ρ H .refl r v (hw ρ H)
theorem s_int {i j pos} : PE X (.Constant (.int i) j pos) (tE X.K ca Wx (mC (.int i))) := s_const pe_int fun _ _ => .int i
theorem s_bl {i j pos} : PE X (.Constant (.bool i) j pos) (tE X.K ca Wx (mC (.bl i))) := s_const pe_bl fun _ _ => .bl i
theorem s_non {j pos} : PE X (.Constant .none j pos) (tE X.K ca Wx (mC .non)) := s_const pe_non fun _ _ => .non
theorem s_str {i j pos} : PE X (.Constant (.str i) j pos) (tE X.K ca Wx (mC (.str i))) := s_const pe_str fun _ _ => .str i

/-- f says what r asks -/
def Says2 (X : Cx) (ca : Nat → Addr) (r : R2) (f : T → T → GH → R T) : Prop :=
  ∀ (Wx : WX) (σ : SSt) (ρ : List Addr) (G : GH) (H H0 : Hp) (x y : V) (s t : T) (Q : VK), Rep X.K ca ρ G H → RelT X.K ca H0 ρ H x s → RelT X.K ca H0 ρ H y t →
    Post X.K ca Wx σ ρ H (fun t _ ρ' H' => ∀ v, RelT X.K ca H ρ' H' v t → Q v H') (f s t G) → r x y H Q
theorem says_in {r : R2} {f : T → T → GH → R T} (hs : Says2 X ca r f) {ma mb : M T} {Q : VK} (h : tE X.K ca Wx (mBin f ma mb) σ H Q) :
    tE X.K ca Wx ma σ H fun x H1 => tE X.K ca Wx mb σ H1 fun y H2 => r x y H2 Q := by
  obtain ⟨ρ, G, τ, r0, s0, h⟩ := h
  refine tE.seq r0 s0 h fun t1 G1 ρ1 H1 v1 x1 r1 s1 q1 h1 => ?_
  refine tE.seq r1 s1 h1 fun t2 G2 ρ2 H2 v2 x2 r2 s2 q2 h2 => ?_
  refine hs Wx σ ρ2 G2 H2 H v1 v2 t1 t2 Q r2 (q1.ext r1 x2) (q2.back x1 x2) (h2.imp fun t G' ρ' H' x' _ q v rv => q v (rv.back (x1.trans x2) x'))
theorem s_bin {a b : Expr} {op : Operator} {pos : Pos} {r : R2} {f : T → T → GH → R T} {ma mb : M T} (ho : OpR X (binaryOp op) r) (hs : Says2 X ca r f) (ha : PE X a (tE X.K ca Wx ma)) (hb : PE X b (tE X.K ca Wx mb)) :
    PE X (.BinOp a op b pos) (tE X.K ca Wx (mBin f ma mb)) := PE.weak (pe_op ho ha hb) fun _ _ _ h => says_in hs h
theorem s_cmp {a b : Expr} {op : CmpOp} {pos : Pos} {r : R2} {f : T → T → GH → R T} {ma mb : M T} (ho : OpR X (compareOp op) r) (hs : Says2 X ca r f) (ha : PE X a (tE X.K ca Wx ma)) (hb : PE X b (tE X.K ca Wx mb)) (hm : behindInMarks op b = false) :
    PE X (.Compare a [op] [b] pos) (tE X.K ca Wx (mBin f ma mb)) := PE.weak (pe_cmpR ho ha hb hm) fun _ _ _ h => says_in hs h

/-! tests -/
theorem tTest_of {m : M T} {Q : Bool → Hp → Prop} (h : tT X.K ca Wx (mB m) σ H Q) : tTest (tE X.K ca Wx m) σ H Q := by
  obtain ⟨ρ, G, τ, r0, s0, h⟩ := h
  refine tE.seq r0 s0 h fun t1 G1 ρ1 H1 v1 x1 r1 s1 q1 h1 => ?_
  cases t1 with
  | tmp ws => exact h1.elim
  | val w =>
    cases w with
    | bl b =>
      cases q1
      exact ⟨b, rfl, h1 ρ1 H1 .refl r1⟩
    | _ => exact h1.elim
theorem s_testCmp {a b : Expr} {op : CmpOp} {pos : Pos} {r : R2} {f : T → T → GH → R T} {ma mb : M T} (ho : OpR X (compareOp op) r) (hs : Says2 X ca r f) (ha : PE X a (tE X.K ca Wx ma)) (hb : PE X b (tE X.K ca Wx mb)) (hm : behindInMarks op b = false) :
    PT X (.Compare a [op] [b] pos) (tT X.K ca Wx (mB (mBin f ma mb))) := by
  refine PT.weak (pt_cmpR ho ha hb hm) fun σ H Q h => ?_
  obtain ⟨ρ, G, τ, r0, s0, h⟩ := h
  have h' := tTest_of ⟨ρ, G, τ, r0, s0, h⟩
  exact says_in hs h'
/-- an expression that is True or False, as a test -/
theorem s_test {e : Expr} {m : M T} (h : PE X e (tE X.K ca Wx m)) (he : ∀ whole, isTrue e X.env whole = (do let v ← whole; standAt e.pos; holding [v] (truthy v)) := by intro _; rfl) : PT X e (tT X.K ca Wx (mB m)) := by
  refine PT.weak (pt_val h he) fun σ H Q h => ?_
  exact tTest_of h
theorem tT.seq {α : Type} {m : M Bool} {k : Bool → GH → R α} {P : α → GH → List Addr → Hp → Prop} {Q : Bool → Hp → Prop} (r : Rep X.K ca ρ G H) (s : RelS X.K ca ρ H σ τ) (h : Post X.K ca Wx σ ρ H P ((m τ G).bind k))
    (hk : ∀ b G1 ρ1 H1, Ext ρ H ρ1 H1 → Rep X.K ca ρ1 G1 H1 → RelS X.K ca ρ1 H1 σ τ → Post X.K ca Wx σ ρ1 H1 P (k b G1) → Q b H1) : tT X.K ca Wx m σ H Q :=
  ⟨ρ, G, τ, r, s, h.bind.imp fun t G1 ρ1 H1 x r1 q => hk t G1 ρ1 H1 x r1 (s.ext r x) q⟩
section
variable {a b : Expr} {rest : List Expr} {pos : Pos} {ma mb : M Bool}
theorem w_and1 (ha : PT X a (tT X.K ca Wx ma)) : PW X (.BoolOp .And [a] pos) (tT X.K ca Wx ma) := pw_and1 ha
theorem w_or1 (ha : PT X a (tT X.K ca Wx ma)) : PW X (.BoolOp .Or [a] pos) (tT X.K ca Wx ma) := pw_or1 ha
theorem PW.weak {X : Cx} {e : Expr} {t t' : TT} (h : PW X e t) (f : ∀ σ H Q, t' σ H Q → t σ H Q) : PW X e t' := ⟨fun wh pins s σ H Q I q => h.run wh pins s σ H Q I (f σ H Q q)⟩
theorem w_and (ha : PT X a (tT X.K ca Wx ma)) (hb : PW X (.BoolOp .And (b :: rest) pos) (tT X.K ca Wx mb)) : PW X (.BoolOp .And (a :: b :: rest) pos) (tT X.K ca Wx (mAnd ma mb)) := by
  refine PW.weak (pw_and ha hb) fun σ H Q ⟨ρ, G, τ, r0, s0, h⟩ => ?_
  refine tT.seq r0 s0 h fun c G1 ρ1 H1 x1 r1 s1 h1 => ?_
  cases c with
  | true => exact ⟨ρ1, G1, τ, r1, s1, h1⟩
  | false => exact h1 ρ1 H1 .refl r1
theorem w_or (ha : PT X a (tT X.K ca Wx ma)) (hb : PW X (.BoolOp .Or (b :: rest) pos) (tT X.K ca Wx mb)) : PW X (.BoolOp .Or (a :: b :: rest) pos) (tT X.K ca Wx (mOr ma mb)) := by
  refine PW.weak (pw_or ha hb) fun σ H Q ⟨ρ, G, τ, r0, s0, h⟩ => ?_
  refine tT.seq r0 s0 h fun c G1 ρ1 H1 x1 r1 s1 h1 => ?_
  cases c with
  | true => exact h1 ρ1 H1 .refl r1
  | false => exact ⟨ρ1, G1, τ, r1, s1, h1⟩
theorem s_tnot (ha : PT X a (tT X.K ca Wx ma)) : PT X (.UnaryOp .Not a pos) (tT X.K ca Wx (mNot ma)) := by
  refine PT.weak (pt_not ha) fun σ H Q ⟨ρ, G, τ, r0, s0, h⟩ => ?_
  exact tT.seq r0 s0 h fun c G1 ρ1 H1 x1 r1 s1 h1 => h1 ρ1 H1 .refl r1
end
/-! and, or, not as values that are True or False -/
section
variable {a b : Expr} {rest : List Expr} {pos : Pos} {ma mb : M T}
theorem v_one {op} (ha : PE X a (tE X.K ca Wx ma)) : PE X (.BoolOp op [a] pos) (tE X.K ca Wx ma) := pe_one ha
def mAndV (a b : M T) : M T := fun τ G => (a τ G).bind fun x G1 => (asB x G1).bind fun c G2 => if c then b τ G2 else .ok (.val (.bl false)) G2
def mOrV (a b : M T) : M T := fun τ G => (a τ G).bind fun x G1 => (asB x G1).bind fun c G2 => if c then .ok (.val (.bl true)) G2 else b τ G2
def mNotV (a : M T) : M T := fun τ G => (a τ G).bind fun x G1 => (asB x G1).bind fun c G2 => .ok (.val (.bl (!c))) G2
theorem asB_of {α : Type} {t1 : T} {G1 : GH} {ρ1 : List Addr} {H0 H1 : Hp} {v1 : V} {P : α → GH → List Addr → Hp → Prop} {k : Bool → GH → R α} (q1 : RelT X.K ca H0 ρ1 H1 v1 t1) (h : Post X.K ca Wx σ ρ1 H1 P ((asB t1 G1).bind k)) :
    ∃ c, v1 = .bl c ∧ Post X.K ca Wx σ ρ1 H1 P (k c G1) := by
  cases t1 with
  | tmp ws => exact h.elim
  | val w =>
    cases w with
    | bl b =>
      cases q1
      exact ⟨b, rfl, h⟩
    | _ => exact h.elim
theorem v_and (ha : PE X a (tE X.K ca Wx ma)) (hb : PE X (.BoolOp .And (b :: rest) pos) (tE X.K ca Wx mb)) : PE X (.BoolOp .And (a :: b :: rest) pos) (tE X.K ca Wx (mAndV ma mb)) := by
  refine PE.weak (pe_and ha hb) fun σ H Q ⟨ρ, G, τ, r0, s0, h⟩ => ?_
  refine tE.seq r0 s0 h fun t1 G1 ρ1 H1 v1 x1 r1 s1 q1 h1 => ?_
  obtain ⟨c, e, h2⟩ := asB_of q1 h1
  refine ⟨c, e, ?_⟩
  cases c with
  | true => exact ⟨ρ1, G1, τ, r1, s1, Post.imp h2 fun t _ ρ' H' x' _ q v rv => q v (rv.back x1 x')⟩
  | false => exact h2 ρ1 H1 .refl r1 _ (.bl false)
theorem v_or (ha : PE X a (tE X.K ca Wx ma)) (hb : PE X (.BoolOp .Or (b :: rest) pos) (tE X.K ca Wx mb)) : PE X (.BoolOp .Or (a :: b :: rest) pos) (tE X.K ca Wx (mOrV ma mb)) := by
  refine PE.weak (pe_or ha hb) fun σ H Q ⟨ρ, G, τ, r0, s0, h⟩ => ?_
  refine tE.seq r0 s0 h fun t1 G1 ρ1 H1 v1 x1 r1 s1 q1 h1 => ?_
  obtain ⟨c, e, h2⟩ := asB_of q1 h1
  refine ⟨c, e, ?_⟩
  cases c with
  | true => exact h2 ρ1 H1 .refl r1 _ (.bl true)
  | false => exact ⟨ρ1, G1, τ, r1, s1, Post.imp h2 fun t _ ρ' H' x' _ q v rv => q v (rv.back x1 x')⟩
theorem v_not (ha : PE X a (tE X.K ca Wx ma)) : PE X (.UnaryOp .Not a pos) (tE X.K ca Wx (mNotV ma)) := by
  refine PE.weak (pe_not ha) fun σ H Q ⟨ρ, G, τ, r0, s0, h⟩ => ?_
  refine tE.seq r0 s0 h fun t1 G1 ρ1 H1 v1 x1 r1 s1 q1 h1 => ?_
  obtain ⟨c, e, h2⟩ := asB_of q1 h1
  exact ⟨c, e, h2 ρ1 H1 .refl r1 _ (.bl _)⟩
theorem s_ife {c : Expr} {mc : M Bool} (hc : PT X c (tT X.K ca Wx mc)) (ha : PE X a (tE X.K ca Wx ma)) (hb : PE X b (tE X.K ca Wx mb)) : PE X (.IfExp c a b pos) (tE X.K ca Wx (mIf mc ma mb)) := by
  refine PE.weak (pe_ifExp hc ha hb) fun σ H Q ⟨ρ, G, τ, r0, s0, h⟩ => ?_
  refine tT.seq r0 s0 h fun c G1 ρ1 H1 x1 r1 s1 h1 => ?_
  cases c with
  | true => exact ⟨ρ1, G1, τ, r1, s1, Post.imp h1 fun t _ ρ' H' x' _ q v rv => q v (rv.back x1 x')⟩
  | false => exact ⟨ρ1, G1, τ, r1, s1, Post.imp h1 fun t _ ρ' H' x' _ q v rv => q v (rv.back x1 x')⟩
end

/-! argument lists, displays -/
theorem force_ok {α : Type} {t1 : T} {G1 : GH} {ρ0 ρ1 : List Addr} {H0 H1 : Hp} {v1 : V} {P : α → GH → List Addr → Hp → Prop} {k : W → GH → R α} (x : Ext ρ0 H0 ρ1 H1) (r1 : Rep X.K ca ρ1 G1 H1) (q1 : RelT X.K ca H0 ρ1 H1 v1 t1)
    (h : Post X.K ca Wx σ ρ0 H0 P ((force t1 G1).bind k)) :
    ∃ w G2 ρ2, Ext ρ0 H0 ρ2 H1 ∧ Rep X.K ca ρ2 G2 H1 ∧ RelW X.K ca ρ2 H1 v1 w ∧ (∀ (n : Nat) a, ρ1[n]? = some a → ρ2[n]? = some a) ∧ Post X.K ca Wx σ ρ2 H1 P (k w G2) := by
  cases t1 with
  | val w => exact ⟨w, G1, ρ1, x, r1, q1, fun _ _ e => e, Post.later h x⟩
  | tmp ws =>
    obtain ⟨p, vs, e, hn, h0, hp, hv⟩ := q1
    subst e
    have y := x.take h0
    refine ⟨.loc G1.length, G1 ++ [.lst ws], ρ1 ++ [p], y, r1.take hn hp hv, .loc ?_, fun n a e => ?_, Post.later h y⟩
    · rw [← r1.len]
      simp
    · rw [List.getElem?_append_left (List.getElem?_eq_some_iff.mp e).1]; exact e
theorem RelS.pre {K : PySem.W.Frag} {ρ ρ' : List Addr} (h : RelS K ca ρ H σ τ) (hp : ∀ (n : Nat) a, ρ[n]? = some a → ρ'[n]? = some a) : RelS K ca ρ' H σ τ :=
  ⟨h.1, fun i w e => let ⟨v, e1, q⟩ := h.2 i w e; ⟨v, e1, q.mono hp Stay.refl⟩⟩
/-- an expression, then forced: as all rules take it -/
theorem tE.seqF {α : Type} {m : M T} {k : W → GH → R α} {P : α → GH → List Addr → Hp → Prop} {Q : VK} (r : Rep X.K ca ρ G H) (s : RelS X.K ca ρ H σ τ) (h : Post X.K ca Wx σ ρ H P (((m τ G).bind force).bind k))
    (hk : ∀ w G1 ρ1 H1 v, Ext ρ H ρ1 H1 → Rep X.K ca ρ1 G1 H1 → RelS X.K ca ρ1 H1 σ τ → RelW X.K ca ρ1 H1 v w → Post X.K ca Wx σ ρ1 H1 P (k w G1) → Q v H1) : tE X.K ca Wx m σ H Q := by
  have h2 : Post X.K ca Wx σ ρ H P ((m τ G).bind fun t G1 => (force t G1).bind k) := by
    cases e : m τ G with
    | ok t G1 => rw [e] at h; exact h
    | ex c fs G1 => rw [e] at h; exact h
    | bad => rw [e] at h; exact h
  refine ⟨ρ, G, τ, r, s, ?_⟩
  cases e : m τ G with
  | ok t G1 =>
    rw [e] at h2
    intro ρ1 H1 x1 r1 v q1
    obtain ⟨w, G2, ρ2, y, r2, q2, pre, h3⟩ := force_ok x1 r1 q1 h2
    exact hk w G2 ρ2 H1 v y r2 ((s.ext r x1).pre pre) q2 h3
  | ex c fs G1 => rw [e] at h2; exact h2
  | bad => rw [e] at h2; exact h2
theorem a_nil : PA X [] (tA X.K ca Wx mNil) := PA.weak pa_nil fun σ H Q ⟨ρ, G, τ, r0, s0, h⟩ => h ρ H .refl r0 [] .nil
theorem a_cons {e : Expr} {es : List Expr} {m : M T} {ms : M (List W)} (he : PE X e (tE X.K ca Wx m)) (hr : PA X es (tA X.K ca Wx ms)) (hs : starEach (e :: es) X.env = (false, eval e X.env) :: starEach es X.env := by rfl) :
    PA X (e :: es) (tA X.K ca Wx (mCons m ms)) := by
  refine PA.weak (pa_cons he hr hs) fun σ H Q ⟨ρ, G, τ, r0, s0, h⟩ => ?_
  refine tE.seqF r0 s0 h fun w G1 ρ1 H1 v x1 r1 s1 q1 h1 => ?_
  refine ⟨ρ1, G1, τ, r1, s1, h1.bind.imp fun ws G2 ρ2 H2 x2 r2 h2 vs qs => ?_⟩
  exact h2 ρ2 H2 .refl r2 (v :: vs) (.cons (q1.ext r1 x2) qs)
theorem tA.seq {α : Type} {m : M (List W)} {k : List W → GH → R α} {P : α → GH → List Addr → Hp → Prop} {Q : List V → Hp → Prop} (r : Rep X.K ca ρ G H) (s : RelS X.K ca ρ H σ τ) (h : Post X.K ca Wx σ ρ H P ((m τ G).bind k))
    (hk : ∀ ws G1 ρ1 H1 vs, Ext ρ H ρ1 H1 → Rep X.K ca ρ1 G1 H1 → RelS X.K ca ρ1 H1 σ τ → RelWs X.K ca ρ1 H1 vs ws → Post X.K ca Wx σ ρ1 H1 P (k ws G1) → Q vs H1) : tA X.K ca Wx m σ H Q :=
  ⟨ρ, G, τ, r, s, h.bind.imp fun ws G1 ρ1 H1 x r1 q vs rv => hk ws G1 ρ1 H1 vs x r1 (s.ext r x) rv q⟩
theorem s_tup {es : List Expr} {x1 : Nat} {pos : Pos} {ms : M (List W)} (h : PA X es (tA X.K ca Wx ms)) : PE X (.Tuple es x1 pos) (tE X.K ca Wx (mTup ms)) := by
  refine PE.weak (pe_tup h) fun σ H Q ⟨ρ, G, τ, r0, s0, h⟩ => ?_
  refine tA.seq r0 s0 h fun ws G1 ρ1 H1 vs x1 r1 s1 q1 h1 => ?_
  have hl := q1.length
  by_cases hz : ws.length ≤ 16777216
  · rw [if_pos hz] at h1
    refine ⟨by rw [sizeLine_eq]; omega, fun p hp => ?_⟩
    have x2 : Ext ρ1 H1 ρ1 (upd H1 p (.tup vs)) := Ext.laid hp
    exact h1 ρ1 _ x2 (r1.laid hp) _ (RelW.tup' (.of upd_same) (relWs_ext q1 r1 x2))
  · rw [if_neg hz] at h1
    exact h1.elim
theorem s_lst {es : List Expr} {pos : Pos} {ms : M (List W)} (h : PA X es (tA X.K ca Wx ms)) : PE X (.List es pos) (tE X.K ca Wx (mLst ms)) := by
  refine PE.weak (pe_lst h) fun σ H Q ⟨ρ, G, τ, r0, s0, h⟩ => ?_
  refine tA.seq r0 s0 h fun ws G1 ρ1 H1 vs x1 r1 s1 q1 h1 => ?_
  have hl := q1.length
  by_cases hz : ws.length ≤ 16777216
  · rw [if_pos hz] at h1
    refine ⟨by rw [sizeLine_eq]; omega, fun p hp => ?_⟩
    have x2 : Ext ρ1 H1 ρ1 (upd H1 p (.lst vs)) := Ext.laid hp
    refine h1 ρ1 _ x2 (r1.laid hp) _ ?_
    refine RelT.back (ρ := ρ1) (H := H1) ?_ x1 x2
    exact ⟨p, vs, rfl, r1.fresh hp, hp, upd_same, relWs_ext q1 r1 x2⟩
  · rw [if_neg hz] at h1
    exact h1.elim
end
end Sy
set_option Elab.async false
set_option linter.all false
set_option maxRecDepth 100000
set_option maxHeartbeats 4000000
/-! a tuple once; enumerate of a tuple -/
namespace Sy
open PySem PySem.Spec PyProof.Rows L2
theorem tupOnce (l : Addr) (items : Array Value) (n : Nat) (dd : Option Addr) (sl : Array (Option Value)) (u : Tok) :
    Meets (Builtin.«tuple.__mul__» ⟨[.ref l, .int 1 u], []⟩) (fun _ R s => s.heap.get? l = some { cls := .type "tuple", dict := dd, data := .seq items n, slots := sl } ∧ R (.ok (.ret (Value.ref l))) s) :=
  .of_wp fun prog w A R s h => by
    obtain ⟨hp, g, d, tk, os⟩ := s
    obtain ⟨hl, h⟩ := h
    have f1 := AutoSeq1.idx_int
    have c1 : (items.isEmpty || (1 : Int) == 1) = true := by simp
    wp_walk using AutoSeq1.wpAny_loadPart' hl
    repeat (first
      | (refine wpAny_ite_true (by rw [c1]) ?_; wp_walk using AutoSeq1.wpAny_loadPart' hl))
    exact ⟨_, rfl, h⟩
def rOneT (K : PySem.W.Frag) : R2 := fun x y H Q => ∃ l xs, x = .ref l ∧ y = .int 1 ∧ SqT K H l xs ∧ Q (.ref l) H
section
variable {X : Cx}
theorem op_oneT : OpR X (binaryOp .Mult) (rOneT X.K) := by
  intro pins s σ H x y v u Q I rx ry h
  obtain ⟨l, xs, rfl, rfl, hT, q⟩ := h
  cases rx
  obtain ⟨t, rfl⟩ := ry
  obtain ⟨its, r, ⟨⟨cls, dd, data, sl⟩, ho, hc, n, hd⟩, hs⟩ := I.tuple hT
  simp only at hc hd
  subst hc hd
  exact wpAny_binaryOp_repeat_ref (T := "tuple") (U := "int") (by decide) ⟨_, ho, rfl⟩ (fun s' => typeIs_int s' 1 t) noFill_tuple_mul F.fills_int_mul F.slot_int_rmul repeat_tuple F.slot_int_index.lookup
    (call_meets F.slot_int_rmul (typeIs_int s 1 t) F.entry_int_rmul (F.args_int_rmul_2 _ _) (int_rmul_tuple 1 t l its.toArray n dd sl)
      ⟨ho, rfl, ⟨_, ho, rfl⟩, call_meets F.slot_tuple_mul ⟨_, ho, rfl⟩ F.entry_tuple_mul (F.args_tuple_mul_2 _ _) (tupOnce l its.toArray n dd sl t) ⟨ho, .ref l, H, I, rfl, q⟩⟩)
end
/-! enumerate of a tuple -/
theorem enumNewT (l : Addr) (items : Array Value) (n : Nat) (dct : Option Addr) (sl : Array (Option Value)) :
    Meets (Builtin.«enumerate.__new__» ⟨[.type "enumerate", .ref l], []⟩) (fun _ R s => s.heap.get? l = some { cls := .type "tuple", dict := dct, data := .seq items n, slots := sl } ∧
      R (.ok (.ret (.ref (s.heap.push { cls := .type "tuple_iterator", data := .fields #[.ref l, .int 0 0] }).objs.size)))
        { s with heap := (s.heap.push { cls := .type "tuple_iterator", data := .fields #[.ref l, .int 0 0] }).push { cls := .type "enumerate", data := .fields #[.none, .bool false, .ref s.heap.objs.size, rawInt 0, .none, .none] } }) :=
  .of_wp fun prog w A R s h => by
    obtain ⟨hp, g, d, tk, os⟩ := s
    obtain ⟨hl, h⟩ := h
    have hsub := sub_enumerate
    have hLT : Heap.IsTuple (Shared.heap ⟨hp, g, d, tk, os⟩) l items := ⟨_, hl, rfl, n, rfl⟩
    wp_walk using AutoSeq1.wpAny_loadPart' hl
    refine wpAny_stack_any fun st => wpAny_pure ?_
    split
    · rename_i c _ _ _ _ _
      cases (c == Value.type "enumerate") <;>
      · wp_walk using AutoSeq1.wpAny_loadPart' hl, wpAny_pyIter_tuple hLT
        exact ⟨_, rfl, h⟩
    · wp_walk using AutoSeq1.wpAny_loadPart' hl, wpAny_pyIter_tuple hLT
      exact ⟨_, rfl, h⟩
theorem enumCallT {prog : Program} {w : World} {A : Around} {E : Value → Shared → Prop} {s : Shared} {l : Addr} {items : Array Value} {Q : Value → Shared → Prop} (hL : s.heap.IsTuple l items)
    (h : ∀ h', IsEnum h' (s.heap.objs.size + 1) s.heap.objs.size 0 .none → h'.IsTupleIter s.heap.objs.size l 0 →
      (∀ b o, s.heap.get? b = some o → h'.get? b = some o) → Q (.ref (s.heap.objs.size + 1)) { s with heap := h' }) :
    wpAny (model prog w) A (call (.type "enumerate") [.ref l]) Q E s := by
  obtain ⟨⟨c, dct, dt, sl⟩, hl, hc, n, hd⟩ := hL
  simp only at hc hd
  subst hc hd
  refine callType_new F.called_enumerate (by decide) (F.typeCall_enumerate_1 _) (F.newCall_enumerate_1 _) (fun obj => F.args_object_init_2 obj _) F.entry_enumerate_new (enumNewT l items n dct sl) ⟨hl, ?_⟩
  generalize eI : ({ cls := Value.type "tuple_iterator", data := .fields #[.ref l, .int 0 0] } : Obj) = oI
  have hz : (s.heap.push oI).objs.size = s.heap.objs.size + 1 := Heap.size_push ..
  rw [hz]
  generalize eE : ({ cls := Value.type "enumerate", data := .fields #[.none, .bool false, .ref s.heap.objs.size, rawInt 0, .none, .none] } : Obj) = oE
  have he : ((s.heap.push oI).push oE).get? (s.heap.objs.size + 1) = some oE := by
    have := Heap.get?_push_size (s.heap.push oI) (o := oE) (by rw [← eE]; rfl)
    rw [hz] at this
    exact this
  have hi : ((s.heap.push oI).push oE).get? s.heap.objs.size = some oI := Heap.get?_push_of_some _ (Heap.get?_push_size _ (by rw [← eI]; rfl))
  refine ⟨⟨_, he, by rw [← eE]⟩, h _ ?_ ⟨_, hi, by rw [← eI], by rw [← eI]; rfl⟩ fun b o x => Heap.get?_push_of_some _ (Heap.get?_push_of_some _ x)⟩
  show Heap.get? _ _ = _
  rw [he, ← eE]
theorem drawsT {prog : Program} {w : World} {A : Around} (hh : A.handled = none) (it l : Addr) (hne : l ≠ it) (items : Array Value) :
    Draws prog w A it [it, l] items.size (fun i v => items[i]? = some v) (fun i h => h.IsTupleIter it l i ∧ h.IsTuple l items) where
  live := fun _ _ st => let ⟨o, ho, _⟩ := st.1; ⟨o, ho⟩
  frame := fun _ _ _ st hk => ⟨st.1.at fun o e => hk it (by simp) o e, let ⟨o, ho, r⟩ := st.2; ⟨o, hk l (by simp) o ho, r⟩⟩
  item := fun i s Q E hi st hQ => by
    refine RZ.nextOf_tuple_item st.1 st.2 (x := items[i]) (by simp [hi]) fun h' hit' hs' => ?_
    exact hQ _ h' s.toks (by simp [hi]) ⟨hit', st.2.extBut hs'.extBut hne⟩ hs'
  done := fun s Q E st hE => RZ.nextOf_tuple_end hh st.1 st.2 (by simp) hE
/-- the tuple at a, each item in a new pair with its number -/
def IteT (K : PySem.W.Frag) (a : Addr) : It :=
  ⟨fun i H => ∃ (xs : List V) (x : V), SqT K H a xs ∧ xs[i]? = some x,
    fun i H v H' => ∃ T x, v = .ref T ∧ H T = none ∧ H' = upd H T (.tup [.int (i : Nat), x]) ∧ ∀ xs, SqT K H a xs → xs[i]? = some x,
    fun i H => ∃ xs : List V, SqT K H a xs ∧ xs.length ≤ i⟩
theorem turn_enumT {P : Program} {w : World} {K : PySem.W.Frag} {elts : List Expr} {kk : Nat} {tpos : Pos} (a e it : Addr) :
    Turn P w K (.Tuple elts kk tpos) (IteT K a) [e, it] e (fun i h => (∃ old, IsEnum h e it ((i : Nat) : Int) old) ∧ h.IsTupleIter it a i ∧ e ≠ it ∧ e ≠ a ∧ a ≠ it) where
  mem := List.mem_cons_self
  obj := fun i h st b hb => by
    obtain ⟨⟨old, he⟩, ⟨o, ho, hc, hd⟩, _⟩ := st
    rcases (show b = e ∨ b = it by simpa using hb) with z | z
    · rw [z]
      exact ⟨_, he, fun v q => nomatch q⟩
    · rw [z]
      exact ⟨o, ho, fun v q => by rw [hd] at q; cases q⟩
  keep := fun i h h' st k => by
    obtain ⟨⟨old, he⟩, hi, hne⟩ := st
    exact ⟨⟨old, k e List.mem_cons_self _ he⟩, hi.at fun o q => k it (by simp) o q, hne⟩
  item := by
    intro X hP hw hK hc i pins s σ H E I hf st hg
    subst hP hw hK
    obtain ⟨⟨old, he⟩, hit, hne, hea, hai⟩ := st
    obtain ⟨xs, x, hq, hx⟩ := hg
    obtain ⟨its, rv, p, hz⟩ := I.tuple hq
    obtain ⟨u, hu, ru⟩ := rv.get hx
    have hel : e < s.heap.objs.size := Heap.lt_size he
    have hil : it < s.heap.objs.size := let ⟨_, q, _⟩ := hit; Heap.lt_size q
    have hD := drawsT (prog := X.prog) (w := X.w) (A := X.A.in1) (I.ok.hd hc) it a hai its.toArray
    have hlt : i < its.toArray.size := by
      have := (List.getElem?_eq_some_iff.mp hu).1
      simpa using this
    refine wpAny_pyNext_enum_itemD hD he ⟨hit, p⟩ hlt hne (by simp [hne, hea]) fun y h' tk hy ho hst hT hsz hk => ?_
    have hy' : y = u := by
      have e1 : its[i]? = some y := by simpa using hy
      rw [hu] at e1
      exact (Option.some.inj e1).symm
    subst hy'
    refine ⟨_, rfl, wpAny_letOwnedTupleGo_enum (s := { s with heap := h', toks := tk + 1 }) ho fun h'' he' sb => ?_⟩
    have hT2 := (sb.2 _ (Nat.ne_of_gt hel)).trans hT
    have nw : ObjOk X.prog X.w (upd H s.heap.objs.size (.tup [.int (i : Nat), x])) h'' s.heap.objs.size (.tup [.int (i : Nat), x]) :=
      ⟨by show 2 ≤ sizeLine; decide, [.int i tk, y], .cons ⟨_, rfl⟩ (.cons ru .nil), ⟨_, hT2, rfl, _, rfl⟩⟩
    have I1 : Inv X pins σ (upd H s.heap.objs.size (.tup [.int (i : Nat), x])) { s with heap := h'', toks := tk + 1 } :=
      I.turnedNew (ch := [e, it]) (fun b ob hb q => (sb.2 b (fun z => hb (by simp [z]))).trans (hk b ob (fun z => hb (by simp [z])) (fun z => hb (by simp [z])) q)) hf (Nat.le_refl _) nw
    refine ⟨.ref s.heap.objs.size, _, I1, rfl, ⟨_, x, rfl, I.hok.fresh (Nat.le_refl _), rfl, fun ys hy => by rw [I.tuple_inj hy hq]; exact hx⟩, ⟨⟨y, ?_⟩, hst.1.at fun o q => (sb.2 it (Ne.symm hne)).trans q, hne, hea, hai⟩, fun b hb => ?_⟩
    · rw [show ((i + 1 : Nat) : Int) = (i : Int) + 1 by omega]
      exact he'
    · have hb' : b < s.heap.objs.size := by
        rcases (show b = e ∨ b = it by simpa using hb) with z | z
        · exact z ▸ hel
        · exact z ▸ hil
      rw [upd_ne (Nat.ne_of_lt hb')]
      exact (hf b hb).1
  done := by
    intro X hP hw hK hc i pins s σ H E I hf st hg
    subst hP hw hK
    obtain ⟨⟨old, he⟩, hit, hne, hea, hai⟩ := st
    obtain ⟨xs, hq, hx⟩ := hg
    obtain ⟨its, rv, p, hz⟩ := I.tuple hq
    obtain ⟨f0, f1, f2, f3, f4, f5⟩ := hf it (by simp)
    have hl := rv.length
    unfold pyNext
    refine wpAny_bind (wpAny_attempt (wpAny_callSpecial?_slot (name := Str.ofString "__next__") ⟨_, he, rfl⟩ F.slot_enumerate_next (wpAny_call_entry F.slot_enumerate_next ⟨_, he, rfl⟩ F.entry_enumerate_next ?_ (F.args_enumerate_next_1 _))))
    show wpAny _ _ (field (.ref e) 2 >>= _) _ _ _
    refine wpAny_bind (wpAny_field he rfl (x := .ref it) rfl ?_)
    refine wpAny_bind (RZ.nextOf_tuple_end (I.ok.hd hc) hit p (by simp; omega) fun h' x he' hx' => ?_)
    obtain ⟨o, ho, hcl⟩ := hx'
    refine wpAny_bind (wpAny_isInstance (T := "StopIteration") (b := true) ⟨o, ho, hcl⟩ isSubtype_stop ?_)
    exact wpAny_pure ⟨rfl, I.turned (t' := s.toks) (fun b o hb q => he' b o hb q) f0 f1 f3 f4 f5⟩
  self := fun A i s Q E st h => let ⟨⟨_, he⟩, _⟩ := st; wpAny_pyIter_enum he h
def iEnumA (K : PySem.W.Frag) (ta : TA) : TI := fun σ H R => ta σ H fun vs H1 => ∃ a xs, vs = [.ref a] ∧ ((SqL K H1 a xs ∧ R (Ite K a) H1) ∨ (SqT K H1 a xs ∧ R (IteT K a) H1))
theorem pi_enumA {X : Cx} {e : Expr} {ta : TA} {p pos tpos : Pos} {elts : List Expr} {kk : Nat} (hg : Gl X "enumerate") (hm : X.mg "enumerate" = none) (ha : PA X [e] ta) (hs : starEach [e] X.env = [(false, eval e X.env)] := by rfl) :
    PI X (.Tuple elts kk tpos) (.Call (.Name "enumerate" p) [e] [] pos) (iEnumA X.K ta) := by
  refine ⟨fun pins s σ H R I h => ?_⟩
  refine Call_ (ld_blt I hg hm boot_enumerate (PyProof.Rows.callWith_type1 (thn (ha.run pos pins s σ H _ I h) fun us s1 ⟨vs, H1, I1, r1, q1⟩ => ?_) hs rfl))
  obtain ⟨a, xs, ex, q1⟩ := q1
  subst ex
  have fr : ∀ b, b ∈ [s1.heap.objs.size + 1, s1.heap.objs.size] → FpOk X pins H1 b := fun b hb => by
    have hle : s1.heap.objs.size ≤ b := by
      rcases (show b = s1.heap.objs.size + 1 ∨ b = s1.heap.objs.size by simpa using hb) with z | z
      · exact z ▸ Nat.le_add_right _ _
      · exact z ▸ Nat.le_refl _
    exact I1.fpOk hle (I1.hok.fresh hle)
  cases r1 with
  | cons r rr =>
    cases rr
    cases r
    rcases q1 with ⟨hq, q⟩ | ⟨hq, q⟩
    · obtain ⟨its, rv, p', hz⟩ := I1.list hq
      refine call_enumerate_list p'.isList fun h' he hit hsz hk => wpAny_pyIter_enum he ?_
      exact ⟨s1.heap.objs.size + 1, [s1.heap.objs.size + 1, s1.heap.objs.size], _, _, H1, rfl, I1.kept (t' := s1.toks) hk, turn_enum a (s1.heap.objs.size + 1) s1.heap.objs.size, ⟨⟨.none, he⟩, hit, Nat.succ_ne_self _⟩, fr, q⟩
    · obtain ⟨its, rv, p', hz⟩ := I1.tuple hq
      have hal : a < s1.heap.objs.size := let ⟨_, q, _⟩ := p'; Heap.lt_size q
      refine enumCallT p' fun h' he hit hk => wpAny_pyIter_enum he ?_
      exact ⟨s1.heap.objs.size + 1, [s1.heap.objs.size + 1, s1.heap.objs.size], _, _, H1, rfl, I1.kept (t' := s1.toks) hk, turn_enumT a (s1.heap.objs.size + 1) s1.heap.objs.size, ⟨⟨.none, he⟩, hit, Nat.succ_ne_self _, Nat.ne_of_gt (Nat.lt_succ_of_lt hal), Nat.ne_of_lt hal⟩, fr, q⟩
end Sy
set_option Elab.async false
set_option linter.all false
set_option maxRecDepth 100000
set_option maxHeartbeats 4000000
namespace Sy
open PySem PySem.Spec PyProof.Rows L2

/-! what stands at a value -/
def GO.rd : GO → Option (List W)
  | .lst ws => some ws
  | _ => none
def GO.wr : GO → Option (List W)
  | .lst ws => some ws
  | _ => none
def rdw (G : GH) : W → Option (List W)
  | .loc n => G[n]?.bind GO.rd
  | .frl ws => some ws
  | _ => none
def wrw (G : GH) : W → Option (List W)
  | .loc n => G[n]?.bind GO.wr
  | _ => none
def rdl (t : T) (G : GH) : Option (List W) := match t with
  | .tmp ws => some ws
  | .val w => rdw G w
def wrl (t : T) (G : GH) : Option (List W) := match t with
  | .tmp ws => some ws
  | .val w => wrw G w
def rdt : T → Option (List W)
  | .val (.tup ws) => some ws
  | _ => none
section
variable {K : PySem.W.Frag} {ca : Nat → Addr} {ρ : List Addr} {G : GH} {H H0 : Hp} {v : V} {t : T} {ws : List W}
theorem rdw_of {w : W} (r : Rep K ca ρ G H) (q : RelW K ca ρ H v w) (h : rdw G w = some ws) : ∃ a vs, v = .ref a ∧ SqL K H a vs ∧ RelWs K ca ρ H vs ws := by
  cases w with
  | loc n =>
    cases q with
    | loc hn =>
      obtain ⟨o, e, ho⟩ := r.at hn
      have h : G[n]?.bind GO.rd = some ws := h
      rw [e] at h
      cases o with
      | lst us => cases h; obtain ⟨vs, e, q⟩ := ho; exact ⟨_, vs, rfl, .of e, q⟩
      | _ => cases h
  | frl us =>
    cases h
    obtain ⟨a, vs, e, hv, qs⟩ := relW_frl q
    exact ⟨a, vs, e, hv.sq, qs⟩
  | _ => cases h
theorem wrw_of {w : W} (r : Rep K ca ρ G H) (q : RelW K ca ρ H v w) (h : wrw G w = some ws) : ∃ a vs, v = .ref a ∧ H a = some (.lst vs) ∧ RelWs K ca ρ H vs ws := by
  cases w with
  | loc n =>
    cases q with
    | loc hn =>
      obtain ⟨o, e, ho⟩ := r.at hn
      have h : G[n]?.bind GO.wr = some ws := h
      rw [e] at h
      cases o with
      | lst us => cases h; obtain ⟨vs, e, q⟩ := ho; exact ⟨_, vs, rfl, e, q⟩
      | _ => cases h
  | _ => cases h
theorem rdl_of (r : Rep K ca ρ G H) (q : RelT K ca H0 ρ H v t) (h : rdl t G = some ws) : ∃ a vs, v = .ref a ∧ SqL K H a vs ∧ RelWs K ca ρ H vs ws := by
  cases t with
  | tmp us =>
    cases h
    obtain ⟨p, vs, e, _, _, hp, hv⟩ := q
    exact ⟨p, vs, e, .of hp, hv⟩
  | val w => exact rdw_of r q h
theorem wrl_of (r : Rep K ca ρ G H) (q : RelT K ca H0 ρ H v t) (h : wrl t G = some ws) : ∃ a vs, v = .ref a ∧ H a = some (.lst vs) ∧ RelWs K ca ρ H vs ws := by
  cases t with
  | tmp us =>
    cases h
    obtain ⟨p, vs, e, _, _, hp, hv⟩ := q
    exact ⟨p, vs, e, hp, hv⟩
  | val w => exact wrw_of r q h
theorem rdt_of (q : RelT K ca H0 ρ H v t) (h : rdt t = some ws) : ∃ a vs, v = .ref a ∧ SqT K H a vs ∧ RelWs K ca ρ H vs ws := by
  cases t with
  | tmp us => cases h
  | val w =>
    cases w with
    | tup us => cases h; exact relW_tup q
    | _ => cases h
end

/-! data -/
def mapO {α β : Type} (f : α → Option β) : List α → Option (List β)
  | [] => some []
  | x :: xs => (f x).bind fun y => (mapO f xs).bind fun ys => some (y :: ys)
def toD : Nat → GH → W → Option PyData
  | 0, _, _ => none
  | n + 1, G, w => match w with
    | .non => some .none
    | .bl b => some (.bool b)
    | .int i => some (.int i)
    | .str x => if x.cps.all (· < 0x110000) then some (.str x) else none
    | .tup ws => (mapO (toD n G) ws).map .tuple
    | .loc k => (rdw G (.loc k)).bind fun ws => (mapO (toD n G) ws).map .list
    | .frl ws => (mapO (toD n G) ws).map .list
    | .ty _ => none
    | .cls _ => none
    | .exn _ _ => none
def toDT (G : GH) : T → Option PyData
  | .val w => toD 9 G w
  | .tmp ws => (mapO (toD 8 G) ws).map .list

theorem mapO_dp {K : PySem.W.Frag} {ca : Nat → Addr} {ρ : List Addr} {G : GH} {H : Hp} {n : Nat} (f : ∀ (w : W) (v : V) (d : PyData), RelW K ca ρ H v w → toD n G w = some d → Dp K H v d ∧ d.canLay0 = true ∧ d.depth ≤ n) :
    ∀ {ws : List W} {vs : List V} {ds : List PyData}, RelWs K ca ρ H vs ws → mapO (toD n G) ws = some ds → DpAll K H vs ds ∧ PyData.canLayAll0 ds = true ∧ PyData.depthAll ds ≤ n
  | [], _, _, .nil, h => by cases h; exact ⟨.nil, rfl, Nat.zero_le _⟩
  | w :: ws, _, ds, .cons q t, h => by
    unfold mapO at h
    cases e1 : toD n G w with
    | none => rw [e1] at h; cases h
    | some d =>
      cases e2 : mapO (toD n G) ws with
      | none => rw [e1, e2] at h; cases h
      | some ds' =>
        rw [e1, e2] at h; cases h
        obtain ⟨a1, a2, a3⟩ := f w _ d q e1
        obtain ⟨b1, b2, b3⟩ := mapO_dp f t e2
        exact ⟨.cons a1 b1, by unfold PyData.canLayAll0; rw [a2, b2]; rfl, by unfold PyData.depthAll; omega⟩
theorem toD_dp {K : PySem.W.Frag} {ca : Nat → Addr} {ρ : List Addr} {G : GH} {H : Hp} (r : Rep K ca ρ G H) : ∀ (n : Nat) (w : W) (v : V) (d : PyData), RelW K ca ρ H v w → toD n G w = some d → Dp K H v d ∧ d.canLay0 = true ∧ d.depth ≤ n
  | 0, _, _, _, _, h => by cases h
  | n + 1, w, v, d, q, h => by
    cases w with
    | non => cases h; cases q; exact ⟨.non, rfl, Nat.zero_le _⟩
    | bl b => cases h; cases q; exact ⟨.bl b, rfl, Nat.zero_le _⟩
    | int b => cases h; cases q; exact ⟨.int b, rfl, Nat.zero_le _⟩
    | str x =>
      have h' : (if x.cps.all (· < 0x110000) then some (PyData.str x) else none) = some d := h
      by_cases z : x.cps.all (· < 0x110000) = true
      · rw [if_pos z] at h'
        cases h'; cases q; exact ⟨.str x, by unfold PyData.canLay0; exact z, Nat.zero_le _⟩
      · rw [if_neg z] at h'; cases h'
    | tup ws =>
      have h' : (mapO (toD n G) ws).map PyData.tuple = some d := h
      cases e : mapO (toD n G) ws with
      | none => rw [e] at h'; cases h'
      | some ds =>
        rw [e] at h'; cases h'
        obtain ⟨a, vs, rfl, hs, qs⟩ := relW_tup q
        obtain ⟨h1, h2, h3⟩ := mapO_dp (toD_dp r n) qs e
        exact ⟨.tup hs h1, by unfold PyData.canLay0; exact h2, by unfold PyData.depth; omega⟩
    | loc k =>
      have h' : ((rdw G (.loc k)).bind fun ws => (mapO (toD n G) ws).map PyData.list) = some d := h
      cases e0 : rdw G (.loc k) with
      | none => rw [e0] at h'; cases h'
      | some ws =>
        rw [e0] at h'
        have h2 : (mapO (toD n G) ws).map PyData.list = some d := h'
        cases e : mapO (toD n G) ws with
        | none => rw [e] at h2; cases h2
        | some ds =>
          rw [e] at h2; cases h2
          obtain ⟨a, vs, rfl, hs, qs⟩ := rdw_of r q e0
          obtain ⟨h1, h2, h3⟩ := mapO_dp (toD_dp r n) qs e
          exact ⟨.lst hs h1, by unfold PyData.canLay0; exact h2, by unfold PyData.depth; omega⟩
    | frl ws =>
      have h' : (mapO (toD n G) ws).map PyData.list = some d := h
      cases e : mapO (toD n G) ws with
      | none => rw [e] at h'; cases h'
      | some ds =>
        rw [e] at h'; cases h'
        obtain ⟨a, vs, rfl, hs, qs⟩ := relW_frl q
        obtain ⟨h1, h2, h3⟩ := mapO_dp (toD_dp r n) qs e
        exact ⟨.lst hs.sq h1, by unfold PyData.canLay0; exact h2, by unfold PyData.depth; omega⟩
    | ty b => cases h
    | cls b => cases h
    | exn b a => cases h
theorem toDT_dp {K : PySem.W.Frag} {ca : Nat → Addr} {ρ : List Addr} {G : GH} {H H0 : Hp} (r : Rep K ca ρ G H) {t : T} {v : V} {d : PyData} (q : RelT K ca H0 ρ H v t) (h : toDT G t = some d) : Dp K H v d ∧ SeqAt.shaped d = true := by
  cases t with
  | val w =>
    obtain ⟨h1, h2, h3⟩ := toD_dp r 9 w v d q h
    exact ⟨h1, by unfold SeqAt.shaped; rw [h2]; exact decide_eq_true (by omega)⟩
  | tmp ws =>
    obtain ⟨p, vs, rfl, _, _, hp, qs⟩ := q
    have h' : (mapO (toD 8 G) ws).map PyData.list = some d := h
    cases e : mapO (toD 8 G) ws with
    | none => rw [e] at h'; cases h'
    | some ds =>
      rw [e] at h'; cases h'
      obtain ⟨h1, h2, h3⟩ := mapO_dp (toD_dp r 8) qs e
      refine ⟨.lst (.of hp) h1, ?_⟩
      unfold SeqAt.shaped
      have z : (PyData.list ds).canLay0 = true := by unfold PyData.canLay0; exact h2
      rw [z]
      refine decide_eq_true ?_
      unfold PyData.depth
      omega

/-! operations by values -/
def fI2 (c : Int → Int → Bool) (g : Int → Int → Int) : T → T → GH → R T
  | .val (.int i), .val (.int j), G => if c i j then .ok (.val (.int (g i j))) G else .bad
  | _, _, _ => .bad
def fC2 (g : Int → Int → Bool) : T → T → GH → R T
  | .val (.int i), .val (.int j), G => .ok (.val (.bl (g i j))) G
  | _, _, _ => .bad
def lineN : Nat := 16777216
def fAdd : T → T → GH → R T
  | .val (.int i), .val (.int j), G => .ok (.val (.int (i + j))) G
  | .val (.str x), .val (.str y), G => if x.length + y.length ≤ 16777216 then .ok (.val (.str (x ++ y))) G else .bad
  | .val (.tup xs), .val (.tup ys), G => if xs.length + ys.length ≤ 16777216 then .ok (.val (.tup (xs ++ ys))) G else .bad
  | x, y, G => match wrl x G, wrl y G with
    | some xs, some ys => if xs.length + ys.length ≤ 16777216 then .ok (.tmp (xs ++ ys)) G else .bad
    | _, _ => .bad
def mulOk (i j : Int) : Bool := decide (Builtin.Int.intBits i + Builtin.Int.intBits j ≤ 134217728)
def repW (ws : List W) (k : Nat) : List W := (List.replicate k ws).flatten
def repS (x : Str) (n : Int) : Str := if n < 1 then Str.empty else if (n == 1 || x.length == 0) = true then x else ⟨(List.replicate n.toNat x.cps).foldl (· ++ ·) #[]⟩
def repOk (x : Str) (k : Int) : Bool := decide (-(2 ^ 63) ≤ k) && decide (k < 2 ^ 63) && decide (x.length * k.toNat ≤ 16777216) && decide ((repS x k).length ≤ 16777216)
def fMul : T → T → GH → R T
  | .val (.int i), .val (.int j), G => if mulOk i j then .ok (.val (.int (i * j))) G else .bad
  | .val (.tup xs), .val (.int k), G => if k = 1 then .ok (.val (.tup xs)) G else if !xs.isEmpty && decide (2 ≤ k) && decide (k ≤ 1000) && decide (xs.length ≤ 1000) then .ok (.val (.tup (repW xs k.toNat))) G else .bad
  | .val (.str x), .val (.int k), G => if repOk x k then .ok (.val (.str (repS x k))) G else .bad
  | x, .val (.int k), G => match wrl x G with
    | some xs => if decide (-(2 ^ 63) ≤ k) && decide (k < 2 ^ 63) && decide (xs.length * k.toNat ≤ 16777216) then .ok (.tmp (repW xs k.toNat)) G else .bad
    | _ => .bad
  | _, _, _ => .bad
def fSub := fI2 (fun _ _ => true) (fun i j => i - j)
def fFdiv := fI2 (fun _ j => decide (0 < j) && decide (j.natAbs.log2 < 9000)) (fun i j => i / j)
def fMod := fI2 (fun _ j => decide (0 < j)) (fun i j => i % j)
def fShl := fI2 (fun i j => decide (0 ≤ j) && decide ((Builtin.Int.intBits i : Int) + j ≤ 2 ^ 27)) (fun i j => i * 2 ^ j.toNat)
def fShr := fI2 (fun _ j => decide (0 ≤ j)) (fun i j => i / 2 ^ j.toNat)
def fAnd := fI2 (fun _ _ => true) Builtin.bitAnd
def fOr := fI2 (fun _ _ => true) Builtin.bitOr
def fXor := fI2 (fun _ _ => true) Builtin.bitXor
def fPow := fI2 (fun i j => decide (0 ≤ j) && decide (j ≤ 1000000) && decide (i.natAbs < 2 ^ 64)) (fun i j => i ^ j.toNat)
def fLt := fC2 (fun i j => decide (i < j))
def fLe := fC2 (fun i j => decide (i ≤ j))
def fGt := fC2 (fun i j => decide (j < i))
def fGe := fC2 (fun i j => decide (j ≤ i))
def fEq (x y : T) (G : GH) : R T := match toDT G x, toDT G y with
  | some d, some e => .ok (.val (.bl (PyData.eqv d e))) G
  | _, _ => .bad
def fNe (x y : T) (G : GH) : R T := match toDT G x, toDT G y with
  | some d, some e => .ok (.val (.bl (!PyData.eqv d e))) G
  | _, _ => .bad
def isNonW : W → Bool
  | .non => true
  | _ => false
def fIs : T → T → GH → R T
  | .val x, .val .non, G => .ok (.val (.bl (isNonW x))) G
  | .val (.bl a), .val (.bl b), G => .ok (.val (.bl (decide (a = b)))) G
  | _, _, _ => .bad
def fIsNot : T → T → GH → R T
  | .val x, .val .non, G => .ok (.val (.bl (!isNonW x))) G
  | .val (.bl a), .val (.bl b), G => .ok (.val (.bl (!decide (a = b)))) G
  | _, _, _ => .bad
section
variable {X : Cx} {ca : Nat → Addr}
theorem says_I {C : Int → Int → Prop} {c : Int → Int → Bool} {g : Int → Int → Int} (h : ∀ i j, c i j = true → C i j) : Says2 X ca (rI C fun i j => .int (g i j)) (fI2 c g) := by
  intro Wx σ ρ G H H0 x y s t Q r qx qy hp
  unfold fI2 at hp
  split at hp
  · cases qx; cases qy
    split at hp
    · rename_i z
      exact ⟨_, _, rfl, rfl, h _ _ z, hp ρ H .refl r _ (.int _)⟩
    · exact hp.elim
  · exact hp.elim
theorem says_I0 {g : Int → Int → Int} : Says2 X ca (rI0 fun i j => .int (g i j)) (fI2 (fun _ _ => true) g) := by
  intro Wx σ ρ G H H0 x y s t Q r qx qy hp
  unfold fI2 at hp
  split at hp
  · cases qx; cases qy
    exact ⟨_, _, rfl, rfl, hp ρ H .refl r _ (.int _)⟩
  · exact hp.elim
theorem says_C {g : Int → Int → Bool} : Says2 X ca (rI0 fun i j => .bl (g i j)) (fC2 g) := by
  intro Wx σ ρ G H H0 x y s t Q r qx qy hp
  unfold fC2 at hp
  split at hp
  · cases qx; cases qy
    exact ⟨_, _, rfl, rfl, hp ρ H .refl r _ (.bl _)⟩
  · exact hp.elim
theorem says_sub : Says2 X ca (rI0 fun i j => .int (i - j)) fSub := says_I0
theorem says_fdiv : Says2 X ca (rI CDivW fun i j => .int (i / j)) fFdiv := says_I fun i j h => by
  rw [Bool.and_eq_true] at h
  exact ⟨of_decide_eq_true h.1, of_decide_eq_true h.2⟩
theorem says_mod : Says2 X ca (rI (fun _ j => 0 < j) fun i j => .int (i % j)) fMod := says_I fun i j h => of_decide_eq_true h
theorem says_shl : Says2 X ca (rI CShl fun i j => .int (i * 2 ^ j.toNat)) fShl := says_I fun i j h => by
  rw [Bool.and_eq_true] at h
  exact ⟨of_decide_eq_true h.1, of_decide_eq_true h.2⟩
theorem says_shr : Says2 X ca (rI (fun _ j => 0 ≤ j) fun i j => .int (i / 2 ^ j.toNat)) fShr := says_I fun i j h => of_decide_eq_true h
theorem says_band : Says2 X ca (rI0 fun i j => .int (Builtin.bitAnd i j)) fAnd := says_I0
theorem says_bor : Says2 X ca (rI0 fun i j => .int (Builtin.bitOr i j)) fOr := says_I0
theorem says_bxor : Says2 X ca (rI0 fun i j => .int (Builtin.bitXor i j)) fXor := says_I0
theorem says_pow : Says2 X ca (rI CPow fun i j => .int (i ^ j.toNat)) fPow := says_I fun i j h => by
  rw [Bool.and_eq_true, Bool.and_eq_true] at h
  exact ⟨of_decide_eq_true h.1.1, of_decide_eq_true h.1.2, of_decide_eq_true h.2⟩
theorem says_eq : Says2 X ca (rEqD X.K) fEq := by
  intro Wx σ ρ G H H0 x y s t Q r qx qy hp
  unfold fEq at hp
  cases e1 : toDT G s with
  | none => rw [e1] at hp; exact hp.elim
  | some d =>
    cases e2 : toDT G t with
    | none => rw [e1, e2] at hp; exact hp.elim
    | some e =>
      rw [e1, e2] at hp
      obtain ⟨a1, a2⟩ := toDT_dp r qx e1
      obtain ⟨b1, b2⟩ := toDT_dp r qy e2
      exact ⟨d, e, a1, b1, a2, b2, hp ρ H .refl r _ (.bl _)⟩
theorem says_ne : Says2 X ca (rNeD X.K) fNe := by
  intro Wx σ ρ G H H0 x y s t Q r qx qy hp
  unfold fNe at hp
  cases e1 : toDT G s with
  | none => rw [e1] at hp; exact hp.elim
  | some d =>
    cases e2 : toDT G t with
    | none => rw [e1, e2] at hp; exact hp.elim
    | some e =>
      rw [e1, e2] at hp
      obtain ⟨a1, a2⟩ := toDT_dp r qx e1
      obtain ⟨b1, b2⟩ := toDT_dp r qy e2
      exact ⟨d, e, a1, b1, a2, b2, hp ρ H .refl r _ (.bl _)⟩
def rAddA (K : PySem.W.Frag) : R2 := fun x y H Q => rI0 (fun i j => .int (i + j)) x y H Q ∨ (∃ i j, x = .str i ∧ y = .str j ∧ i.length + j.length ≤ sizeLine ∧ Q (.str (i ++ j)) H) ∨ rCat x y H Q ∨ rCatA K x y H Q
theorem op_addA : OpR X (binaryOp .Add) (rAddA X.K) := op_add.or (op_add_str.or (op_cat.or op_catA))
theorem fresh_tmp {K : PySem.W.Frag} {ρ : List Addr} {G : GH} {H : Hp} {p : Addr} {vs : List V} {ws : List W} (r : Rep K ca ρ G H) (hp : H p = none) (q : RelWs K ca ρ H vs ws) : RelT K ca H ρ (upd H p (.lst vs)) (.ref p) (.tmp ws) :=
  ⟨p, vs, rfl, r.fresh hp, hp, upd_same, relWs_ext q r (.laid hp)⟩
theorem relWs_app {K : PySem.W.Frag} {ρ : List Addr} {H : Hp} : ∀ {vs us : List V} {ws zs : List W}, RelWs K ca ρ H vs ws → RelWs K ca ρ H us zs → RelWs K ca ρ H (vs ++ us) (ws ++ zs)
  | _, _, _, _, .nil, h => h
  | _, _, _, _, .cons q t, h => .cons q (relWs_app t h)
theorem relWs_rep {K : PySem.W.Frag} {ρ : List Addr} {H : Hp} {vs : List V} {ws : List W} (h : RelWs K ca ρ H vs ws) : ∀ k : Nat, RelWs K ca ρ H (List.replicate k vs).flatten (repW ws k)
  | 0 => .nil
  | k + 1 => by
    unfold repW
    rw [List.replicate_succ, List.replicate_succ, List.flatten_cons, List.flatten_cons]
    exact relWs_app h (relWs_rep h k)
theorem says_add : Says2 X ca (rAddA X.K) fAdd := by
  intro Wx σ ρ G H H0 x y s t Q r qx qy hp
  unfold fAdd at hp
  split at hp
  · cases qx; cases qy
    exact .inl ⟨_, _, rfl, rfl, hp ρ H .refl r _ (.int _)⟩
  · cases qx; cases qy
    split at hp
    · rename_i z
      exact .inr (.inl ⟨_, _, rfl, rfl, by rw [sizeLine_eq]; exact z, hp ρ H .refl r _ (.str _)⟩)
    · exact hp.elim
  · rename_i G2 xs ys
    split at hp
    · rename_i z2
      have qx' := qx
      have qy' := qy
      obtain ⟨a, vs, rfl, hs, q1⟩ := relW_tup qx
      obtain ⟨b, us, rfl, hs', q2⟩ := relW_tup qy
      have l1 := q1.length
      have l2 := q2.length
      refine .inr (.inr (.inr ⟨a, b, vs, us, rfl, rfl, hs, hs', by rw [sizeLine_eq]; omega, fun e => ?_, fun _ e => ?_, fun _ _ p hn => hp ρ _ (.laid hn) (r.laid hn) _ (RelW.tup' (.of upd_same) (relWs_app (relWs_ext q1 r (.laid hn)) (relWs_ext q2 r (.laid hn))))⟩))
      · subst e
        have : xs = [] := by cases q1; rfl
        subst this
        exact hp ρ H .refl r _ qy'
      · subst e
        have : ys = [] := by cases q2; rfl
        subst this
        rw [List.append_nil] at hp
        exact hp ρ H .refl r _ qx'
    · exact hp.elim
  · cases e1 : wrl s G with
    | none => rw [e1] at hp; exact hp.elim
    | some xs =>
      cases e2 : wrl t G with
      | none => rw [e1, e2] at hp; exact hp.elim
      | some ys =>
        rw [e1, e2] at hp
        dsimp only at hp
        split at hp
        · rename_i z
          obtain ⟨a, vs, rfl, ha, q1⟩ := wrl_of r qx e1
          obtain ⟨b, us, rfl, hb, q2⟩ := wrl_of r qy e2
          have l1 := q1.length
          have l2 := q2.length
          exact .inr (.inr (.inl ⟨a, b, vs, us, rfl, rfl, ha, hb, by rw [sizeLine_eq]; omega, fun p hn => hp ρ _ (.laid hn) (r.laid hn) _ (fresh_tmp r hn (relWs_app q1 q2))⟩))
        · exact hp.elim
def rMulS : R2 := fun x y H Q => ∃ a n, x = .str a ∧ y = .int n ∧ -(2 ^ 63) ≤ n ∧ n < 2 ^ 63 ∧ a.length * n.toNat ≤ 16777216 ∧ (repS a n).length ≤ 16777216 ∧ Q (.str (repS a n)) H
def rMulA (K : PySem.W.Frag) : R2 := fun x y H Q => rI CMulX (fun i j => .int (i * j)) x y H Q ∨ rRep x y H Q ∨ rRepT K x y H Q ∨ rMulS x y H Q ∨ rOneT K x y H Q
theorem op_mulS : OpR X (binaryOp .Mult) rMulS := by
  intro pins s σ H x y v u Q I rx ry h
  obtain ⟨a, n, rfl, rfl, h1, h2, h3, h4, q⟩ := h
  obtain ⟨t, rfl⟩ := rx
  obtain ⟨t', rfl⟩ := ry
  have hsl := sizeLine_eq
  refine PySem.P.mul_str (by rw [decide_eq_false (by omega), decide_eq_false (by omega)]; rfl) (fun hn _ => ?_) (fun hn _ => ?_) ?_
  · have hn' : 0 < n := by omega
    have : (a.length : Int) * n ≤ 2 ^ 63 - 1 := by
      have e : (a.length : Int) * n = ((a.length * n.toNat : Nat) : Int) := by
        rw [Int.natCast_mul, Int.toNat_of_nonneg (by omega)]
      rw [e]; omega
    have := Int.le_ediv_of_mul_le hn' this
    omega
  · unfold Builtin.Str.tooLong
    exact decide_eq_false (by omega)
  · unfold repS at h4 q
    by_cases c1 : n < 1
    · rw [if_pos c1] at h4 q ⊢
      exact ⟨by rw [hsl]; exact h4, .str Str.empty, H, I.tok _, ⟨_, rfl⟩, q⟩
    · rw [if_neg c1] at h4 q ⊢
      by_cases c2 : (n == 1 || a.length == 0) = true
      · rw [if_pos c2] at h4 q ⊢
        exact ⟨.str a, H, I, ⟨_, rfl⟩, q⟩
      · rw [if_neg c2] at h4 q ⊢
        exact ⟨by rw [hsl]; exact h4, .str _, H, I.tok _, ⟨_, rfl⟩, q⟩
theorem op_mulA : OpR X (binaryOp .Mult) (rMulA X.K) := op_mulX.or (op_rep.or (op_repT.or (op_mulS.or op_oneT)))
theorem says_mul : Says2 X ca (rMulA X.K) fMul := by
  intro Wx σ ρ G H H0 x y s t Q r qx qy hp
  unfold fMul at hp
  split at hp
  · cases qx; cases qy
    split at hp
    · rename_i z
      refine .inl ⟨_, _, rfl, rfl, ?_, hp ρ H .refl r _ (.int _)⟩
      have z' := of_decide_eq_true z
      unfold CMulX
      omega
    · exact hp.elim
  · split at hp
    · rename_i z
      subst z
      obtain ⟨a, vs, rfl, hs, q1⟩ := relW_tup qx
      cases qy
      exact .inr (.inr (.inr (.inr ⟨a, vs, rfl, rfl, hs, hp ρ H .refl r _ (RelW.tup' hs q1)⟩)))
    split at hp
    · rename_i z
      rw [Bool.and_eq_true, Bool.and_eq_true, Bool.and_eq_true] at z
      obtain ⟨a, vs, rfl, hs, q1⟩ := relW_tup qx
      cases qy
      have l1 := q1.length
      have n1 : vs ≠ [] := fun e => by subst e; cases q1; simp at z
      refine .inr (.inr (.inl ⟨a, _, vs, rfl, rfl, hs, n1, of_decide_eq_true z.1.1.2, of_decide_eq_true z.1.2, by rw [l1]; exact of_decide_eq_true z.2, fun p hn => hp ρ _ (.laid hn) (r.laid hn) _ (RelW.tup' (.of upd_same) (relWs_rep (relWs_ext q1 r (.laid hn)) _))⟩))
    · exact hp.elim
  · cases qx; cases qy
    split at hp
    · rename_i z
      unfold repOk at z
      rw [Bool.and_eq_true, Bool.and_eq_true, Bool.and_eq_true] at z
      exact .inr (.inr (.inr (.inl ⟨_, _, rfl, rfl, of_decide_eq_true z.1.1.1, of_decide_eq_true z.1.1.2, of_decide_eq_true z.1.2, of_decide_eq_true z.2, hp ρ H .refl r _ (.str _)⟩)))
    · exact hp.elim
  · cases e1 : wrl s G with
    | none => rw [e1] at hp; exact hp.elim
    | some xs =>
      rw [e1] at hp
      dsimp only at hp
      split at hp
      · rename_i z
        rw [Bool.and_eq_true, Bool.and_eq_true] at z
        obtain ⟨a, vs, rfl, ha, q1⟩ := wrl_of r qx e1
        cases qy
        have l1 := q1.length
        refine .inr (.inl ⟨a, _, vs, rfl, rfl, ha, of_decide_eq_true z.1.1, of_decide_eq_true z.1.2, by rw [sizeLine_eq, l1]; exact of_decide_eq_true z.2, fun p hn => hp ρ _ (.laid hn) (r.laid hn) _ (fresh_tmp r hn (relWs_rep q1 _))⟩)
      · exact hp.elim
  · exact hp.elim
end
end Sy
set_option Elab.async false
set_option linter.all false
set_option maxRecDepth 100000
set_option maxHeartbeats 4000000
namespace Sy
open PySem PySem.Spec PyProof.Rows L2

/-! statements by computations -/
def R.toS {α : Type} (r : R α) (τ : Sl) (k : α → GH → RS) : RS := match r with
  | .ok a G => k a G
  | .ex c fs G => .ex c fs τ G
  | .bad => .bad
@[simp] theorem R.toS_ok {α : Type} (a : α) (G : GH) (τ : Sl) (k : α → GH → RS) : (R.ok a G).toS τ k = k a G := (rfl)
@[simp] theorem R.toS_ex {α : Type} (c : Nat) (fs) (G : GH) (τ : Sl) (k : α → GH → RS) : (R.ex c fs G : R α).toS τ k = .ex c fs τ G := (rfl)
@[simp] theorem R.toS_bad {α : Type} (τ : Sl) (k : α → GH → RS) : (R.bad : R α).toS τ k = .bad := (rfl)
def RS.andThen (r : RS) (k : MS) : RS := match r with
  | .nx τ G => k τ G
  | r => r
@[simp] theorem RS.then_nx (τ : Sl) (G : GH) (k : MS) : (RS.nx τ G).andThen k = k τ G := (rfl)
@[simp] theorem RS.then_rt (w : W) (G : GH) (k : MS) : (RS.rt w G).andThen k = .rt w G := (rfl)
@[simp] theorem RS.then_bk (τ : Sl) (G : GH) (k : MS) : (RS.bk τ G).andThen k = .bk τ G := (rfl)
@[simp] theorem RS.then_ct (τ : Sl) (G : GH) (k : MS) : (RS.ct τ G).andThen k = .ct τ G := (rfl)
@[simp] theorem RS.then_ex (c fs) (τ : Sl) (G : GH) (k : MS) : (RS.ex c fs τ G).andThen k = .ex c fs τ G := (rfl)
@[simp] theorem RS.then_bad (k : MS) : RS.bad.andThen k = .bad := (rfl)
def sNext : MS := fun τ G => .nx τ G
def sSeq (a b : MS) : MS := fun τ G => (a τ G).andThen b
def sDrop (m : M T) : MS := fun τ G => (m τ G).toS τ fun _ G1 => .nx τ G1
def sRet (m : M T) : MS := fun τ G => (mF m τ G).toS τ fun w G1 => .rt w G1
def sRetN : MS := fun τ G => .rt .non G
def sBrk : MS := fun τ G => .bk τ G
def sCt : MS := fun τ G => .ct τ G
def sIf (c : M Bool) (a b : MS) : MS := fun τ G => (c τ G).toS τ fun x G1 => if x then a τ G1 else b τ G1
def sSet (i : Nat) (m : M T) : MS := fun τ G => (mF m τ G).toS τ fun w G1 => .nx (τ.set i (some w)) G1
def sAug (i : Nat) (f : T → T → GH → R T) (m : M T) : MS := fun τ G => (mVar i τ G).toS τ fun x G0 => (m τ G0).toS τ fun y G1 => ((f x y G1).bind force).toS τ fun w G2 => .nx (τ.set i (some w)) G2

section
variable {X : Cx} {ca : Nat → Addr} {Wx : WX} {D : Ends} {σ : SSt} {H : Hp} {ρ : List Addr} {G : GH} {τ : Sl}
theorem PostS.of {α : Type} {r : R α} {k : α → GH → RS} (s : RelS X.K ca ρ H σ τ) (r0 : Rep X.K ca ρ G H) (h : PostS X.K ca Wx D ρ H (r.toS τ k)) : Post X.K ca Wx σ ρ H (fun a G1 ρ1 H1 => PostS X.K ca Wx D ρ1 H1 (k a G1)) r := by
  cases r with
  | ok a G1 => exact fun ρ1 H1 x r1 => PostS.later h x
  | ex c fs G1 => exact fun ρ1 H1 d x r1 e => h ρ1 H1 d σ x r1 (s.ext r0 x) e
  | bad => exact h
theorem tE.seqS {m : M T} {k : T → GH → RS} {Q : VK} (r : Rep X.K ca ρ G H) (s : RelS X.K ca ρ H σ τ) (h : PostS X.K ca Wx D ρ H ((m τ G).toS τ k))
    (hk : ∀ t G1 ρ1 H1 v, Ext ρ H ρ1 H1 → Rep X.K ca ρ1 G1 H1 → RelS X.K ca ρ1 H1 σ τ → RelT X.K ca H ρ1 H1 v t → PostS X.K ca Wx D ρ1 H1 (k t G1) → Q v H1) : tE X.K ca Wx m σ H Q :=
  ⟨ρ, G, τ, r, s, (PostS.of s r h).imp fun t G1 ρ1 H1 x r1 q v rv => hk t G1 ρ1 H1 v x r1 (s.ext r x) rv q⟩
theorem tT.seqS {m : M Bool} {k : Bool → GH → RS} {Q : Bool → Hp → Prop} (r : Rep X.K ca ρ G H) (s : RelS X.K ca ρ H σ τ) (h : PostS X.K ca Wx D ρ H ((m τ G).toS τ k))
    (hk : ∀ b G1 ρ1 H1, Ext ρ H ρ1 H1 → Rep X.K ca ρ1 G1 H1 → RelS X.K ca ρ1 H1 σ τ → PostS X.K ca Wx D ρ1 H1 (k b G1) → Q b H1) : tT X.K ca Wx m σ H Q :=
  ⟨ρ, G, τ, r, s, (PostS.of s r h).imp fun b G1 ρ1 H1 x r1 q => hk b G1 ρ1 H1 x r1 (s.ext r x) q⟩
theorem forceS_ok {t1 : T} {G1 : GH} {ρ0 ρ1 : List Addr} {H0 H1 : Hp} {v1 : V} {k : W → GH → RS} (x : Ext ρ0 H0 ρ1 H1) (r1 : Rep X.K ca ρ1 G1 H1) (q1 : RelT X.K ca H0 ρ1 H1 v1 t1) (h : PostS X.K ca Wx D ρ0 H0 ((force t1 G1).toS τ k)) :
    ∃ w G2 ρ2, Ext ρ0 H0 ρ2 H1 ∧ Rep X.K ca ρ2 G2 H1 ∧ RelW X.K ca ρ2 H1 v1 w ∧ (∀ (n : Nat) a, ρ1[n]? = some a → ρ2[n]? = some a) ∧ PostS X.K ca Wx D ρ2 H1 (k w G2) := by
  cases t1 with
  | val w => exact ⟨w, G1, ρ1, x, r1, q1, fun _ _ e => e, PostS.later h x⟩
  | tmp ws =>
    obtain ⟨p, vs, e, hn, h0, hp, hv⟩ := q1
    subst e
    have y := x.take h0
    refine ⟨.loc G1.length, G1 ++ [.lst ws], ρ1 ++ [p], y, r1.take hn hp hv, .loc ?_, fun n a e => ?_, PostS.later h y⟩
    · rw [← r1.len]
      simp
    · rw [List.getElem?_append_left (List.getElem?_eq_some_iff.mp e).1]; exact e
theorem tE.seqFS {m : M T} {k : W → GH → RS} {Q : VK} (r : Rep X.K ca ρ G H) (s : RelS X.K ca ρ H σ τ) (h : PostS X.K ca Wx D ρ H ((mF m τ G).toS τ k))
    (hk : ∀ w G1 ρ1 H1 v, Ext ρ H ρ1 H1 → Rep X.K ca ρ1 G1 H1 → RelS X.K ca ρ1 H1 σ τ → RelW X.K ca ρ1 H1 v w → PostS X.K ca Wx D ρ1 H1 (k w G1) → Q v H1) : tE X.K ca Wx m σ H Q := by
  have h2 : PostS X.K ca Wx D ρ H ((m τ G).toS τ fun t G1 => (force t G1).toS τ k) := by
    unfold mF at h
    cases e : m τ G with
    | ok t G1 => rw [e] at h; exact h
    | ex c fs G1 => rw [e] at h; exact h
    | bad => rw [e] at h; exact h
  refine ⟨ρ, G, τ, r, s, ?_⟩
  cases e : m τ G with
  | ok t G1 =>
    rw [e] at h2
    intro ρ1 H1 x1 r1 v q1
    obtain ⟨w, G2, ρ2, y, r2, q2, pre, h3⟩ := forceS_ok x1 r1 q1 h2
    exact hk w G2 ρ2 H1 v y r2 ((s.ext r x1).pre pre) q2 h3
  | ex c fs G1 =>
    rw [e] at h2
    exact PostS.of (k := fun t G1 => (force t G1).toS τ k) (r := .ex c fs G1) s r h2
  | bad => rw [e] at h2; exact h2

variable {st : Stmt} {rest : List Stmt} {e : Expr} {m1 m2 : MS} {m : M T} {pos : Pos}
theorem b_nil : PSs X [] (tS X.K ca Wx sNext) := PSs.weak pss_nil fun D σ H ⟨ρ, G, τ, r, s, h⟩ => h ρ H σ .refl r s
theorem b_cons (h1 : PS X st (tS X.K ca Wx m1)) (h2 : PSs X rest (tS X.K ca Wx m2)) : PSs X (st :: rest) (tS X.K ca Wx (sSeq m1 m2)) := by
  refine PSs.weak (pss_cons h1 h2) fun D σ H ⟨ρ, G, τ, r, s, h⟩ => ⟨ρ, G, τ, r, s, ?_⟩
  unfold sSeq at h
  cases e : m1 τ G with
  | nx τ1 G1 => rw [e] at h; exact fun ρ' H' σ' x r' s' => ⟨ρ', G1, τ1, r', s', PostS.later h x⟩
  | rt w G1 => rw [e] at h; exact h
  | bk τ1 G1 => rw [e] at h; exact h
  | ct τ1 G1 => rw [e] at h; exact h
  | ex c fs τ1 G1 => rw [e] at h; exact h
  | bad => rw [e] at h; exact h
theorem b_one (h1 : PS X st (tS X.K ca Wx m1)) : PSs X [st] (tS X.K ca Wx m1) := pss_one h1
theorem s_pass : PS X (.Pass pos) (tS X.K ca Wx sNext) := PS.weak ps_pass fun D σ H ⟨ρ, G, τ, r, s, h⟩ => h ρ H σ .refl r s
theorem s_doc {x j pos pos'} : PS X (.Expr (.Constant (.str x) j pos) pos') (tS X.K ca Wx sNext) := PS.weak ps_doc fun D σ H ⟨ρ, G, τ, r, s, h⟩ => h ρ H σ .refl r s
theorem s_break : PS X (.Break pos) (tS X.K ca Wx sBrk) := PS.weak ps_break fun D σ H ⟨ρ, G, τ, r, s, h⟩ => h ρ H σ .refl r s
theorem s_continue : PS X (.Continue pos) (tS X.K ca Wx sCt) := PS.weak ps_continue fun D σ H ⟨ρ, G, τ, r, s, h⟩ => h ρ H σ .refl r s
theorem s_expr (he : PE X e (tE X.K ca Wx m)) (hs : swapsWith e none pos.line X.env = pure false := by rfl) : PS X (.Expr e pos) (tS X.K ca Wx (sDrop m)) := by
  refine PS.weak (ps_expr he hs) fun D σ H ⟨ρ, G, τ, r, s, h⟩ => ?_
  exact tE.seqS r s h fun t G1 ρ1 H1 v x1 r1 s1 q1 h1 => h1 ρ1 H1 σ .refl r1 s1
theorem s_ret (he : PE X e (tE X.K ca Wx m)) : PS X (.Return (some e) pos) (tS X.K ca Wx (sRet m)) := by
  refine PS.weak (ps_ret he) fun D σ H ⟨ρ, G, τ, r, s, h⟩ => ?_
  exact tE.seqFS r s h fun w G1 ρ1 H1 v x1 r1 s1 q1 h1 => h1 ρ1 H1 v .refl r1 q1
theorem s_retN : PS X (.Return none pos) (tS X.K ca Wx sRetN) := PS.weak ps_retN fun D σ H ⟨ρ, G, τ, r, s, h⟩ => h ρ H .non .refl r .non
theorem s_if {c : Expr} {a b : List Stmt} {mc : M Bool} (hc : PT X c (tT X.K ca Wx mc)) (ha : PSs X a (tS X.K ca Wx m1)) (hb : PSs X b (tS X.K ca Wx m2)) : PS X (.If c a b pos) (tS X.K ca Wx (sIf mc m1 m2)) := by
  refine PS.weak (ps_if hc ha hb) fun D σ H ⟨ρ, G, τ, r, s, h⟩ => ?_
  refine tT.seqS r s h fun b G1 ρ1 H1 x1 r1 s1 h1 => ?_
  cases b with
  | true => exact ⟨ρ1, G1, τ, r1, s1, h1⟩
  | false => exact ⟨ρ1, G1, τ, r1, s1, h1⟩
theorem set_of {i : Nat} {D : Ends} {σ : SSt} {H : Hp} (h : tS X.K ca Wx (sSet i m) D σ H) : tAsg (tE X.K ca Wx m) (gName i) D σ H := by
  obtain ⟨ρ, G, τ, r, s, h⟩ := h
  exact tE.seqFS r s h fun w G1 ρ1 H1 v x1 r1 s1 q1 h1 => h1 ρ1 H1 _ .refl r1 (s1.set i q1)
theorem s_set {i : Nat} {x : Str} {pos' : Pos} (hN : X.N.Nodup) (hi : X.N[i]? = some x) (hx : Loc X.env.scope x) (he : PE X e (tE X.K ca Wx m)) (hs : swapsWith e (some (.Name x pos')) pos.line X.env = pure false := by rfl)
    (hf : X.fn x = true ∨ X.env.scope.names.lookup x = some .local := by first | exact .inl rfl | exact .inr rfl | assumption) : PS X (.Assign [.Name x pos'] e pos) (tS X.K ca Wx (sSet i m)) :=
  PS.weak (ps_set hN hi hx he hs hf) fun D σ H h => set_of h
/-- x op= e, by values -/
def SaysIp (X : Cx) (ca : Nat → Addr) (r : TIp) (f : T → T → GH → R T) : Prop := Says2 X ca r f
theorem mVar_ok {α : Type} {i : Nat} {k : T → GH → RS} (s : RelS X.K ca ρ H σ τ) (h : PostS X.K ca Wx D ρ H ((mVar i τ G).toS τ k)) : ∃ w v, τ[i]? = some (some w) ∧ σ[i]? = some (some v) ∧ RelW X.K ca ρ H v w ∧ PostS X.K ca Wx D ρ H (k (.val w) G) := by
  unfold mVar at h
  cases e : τ[i]? with
  | none => rw [e] at h; exact h.elim
  | some o =>
    cases o with
    | none => rw [e] at h; exact h.elim
    | some w =>
      rw [e] at h
      obtain ⟨v, e1, q⟩ := s.2 i w e
      exact ⟨w, v, rfl, e1, q, h⟩
theorem s_aug {i : Nat} {x : Str} {op : Operator} {ti : TIp} {f : T → T → GH → R T} {pos' : Pos} (hN : X.N.Nodup) (hi : X.N[i]? = some x) (hx : Loc X.env.scope x) (he : PE X e (tE X.K ca Wx m)) (ho : PIp X op ti) (hs : Says2 X ca ti f)
    (hf : X.fn x = true ∨ X.env.scope.names.lookup x = some .local := by first | exact .inl rfl | exact .inr rfl | assumption) :
    PS X (.AugAssign (.Name x pos') op e pos) (tS X.K ca Wx (sAug i f m)) := by
  refine PS.weak (ps_aug hN hi hx he ho hf) fun D σ H ⟨ρ, G, τ, r, s, h⟩ => ?_
  obtain ⟨w, v, _, e1, q, h⟩ := mVar_ok (α := T) s h
  refine ⟨v, e1, tE.seqS r s h fun t G1 ρ1 H1 y x1 r1 s1 q1 h1 => ?_⟩
  refine hs Wx σ ρ1 G1 H1 H v y (.val w) t _ r1 (q.ext r x1) q1 ?_
  -- the sum, forced
  cases e : f (.val w) t G1 with
  | ok u G2 =>
    rw [e] at h1
    intro ρ2 H2 x2 r2 z qz
    obtain ⟨w3, G3, ρ3, y3, r3, q3, pre, h3⟩ := forceS_ok x2 r2 qz h1
    exact h3 ρ3 H2 _ .refl r3 (((s1.ext r1 x2).pre pre).set i q3)
  | ex c fs G2 => rw [e] at h1; exact PostS.of (k := fun w G2 => .nx (τ.set i (some w)) G2) (r := .ex c fs G2) s1 r1 h1
  | bad => rw [e] at h1; exact h1
end

/-! while -/
def whileF (c : M Bool) (b : MS) : Nat → Sl → GH → RS
  | 0, _, _ => .bad
  | f + 1, τ, G => (c τ G).toS τ fun x G1 => if x then match b τ G1 with
      | .nx τ2 G2 => whileF c b f τ2 G2
      | .ct τ2 G2 => whileF c b f τ2 G2
      | .bk τ2 G2 => .nx τ2 G2
      | .rt w G2 => .rt w G2
      | .ex e fs τ2 G2 => .ex e fs τ2 G2
      | .bad => .bad
    else .nx τ G1
section
variable {X : Cx} {ca : Nat → Addr} {Wx : WX} {pos : Pos}
theorem s_while {c : Expr} {body : List Stmt} {mc : M Bool} {mb : MS} {n : Nat} (hp : PassesOwn (model X.prog X.w) X.A X.env X.xe) (hc : PT X c (tT X.K ca Wx mc)) (hb : PSs X body (tS X.K ca Wx mb)) :
    PS X (.While c body [] pos) (tS X.K ca Wx (whileF mc mb n)) := by
  refine PS.weak (ps_while hp hc hb) fun D σ H ⟨ρ, G, τ, r, s, h⟩ => ?_
  refine ⟨fun m σ H => ∃ ρ G τ, Rep X.K ca ρ G H ∧ RelS X.K ca ρ H σ τ ∧ PostS X.K ca Wx D ρ H (whileF mc mb m τ G), ⟨n, ρ, G, τ, r, s, h⟩, ?_⟩
  rintro m σ1 H1 ⟨ρ1, G1, τ1, r1, s1, h1⟩
  cases m with
  | zero => exact h1.elim
  | succ m =>
    refine tT.seqS r1 s1 h1 fun b G2 ρ2 H2 x2 r2 s2 h2 => ?_
    cases b with
    | false =>
      rw [if_neg Bool.false_ne_true] at h2 ⊢
      exact h2 ρ2 H2 σ1 .refl r2 s2
    | true =>
      rw [if_pos rfl] at h2 ⊢
      refine ⟨fun σ' H' => ∃ ρ G τ, Rep X.K ca ρ G H' ∧ RelS X.K ca ρ H' σ' τ ∧ PostS X.K ca Wx D ρ H' (whileF mc mb m τ G), fun σ' H' hw => ⟨m, Nat.lt_succ_self m, hw⟩, ρ2, G2, τ1, r2, s2, ?_⟩
      cases e : mb τ1 G2 with
      | nx τ3 G3 => rw [e] at h2; exact fun ρ' H' σ' x r s => ⟨ρ', G3, τ3, r, s, PostS.later h2 x⟩
      | ct τ3 G3 => rw [e] at h2; exact fun ρ' H' σ' x r s => ⟨ρ', G3, τ3, r, s, PostS.later h2 x⟩
      | bk τ3 G3 => rw [e] at h2; exact h2
      | rt w G3 => rw [e] at h2; exact h2
      | ex c fs τ3 G3 => rw [e] at h2; exact h2
      | bad => rw [e] at h2; exact h2
end

/-! what a for walks: the items, and the lists that must stand still -/
abbrev Src := List (Nat × List W)
open Classical in
noncomputable def still (src : Src) (G : GH) : Bool := decide (∀ p ∈ src, G[p.1]?.bind GO.rd = some p.2)
open Classical in
theorem still_iff {src : Src} {G : GH} : still src G = true ↔ ∀ p ∈ src, G[p.1]?.bind GO.rd = some p.2 := by
  unfold still
  exact decide_eq_true_iff
@[simp] theorem still_nil {G : GH} : still [] G = true := still_iff.mpr fun _ h => by cases h
section
variable (K : PySem.W.Frag) (ca : Nat → Addr)
/-- the walk J yields these items while the lists stand still -/
def ItOk (J : It) (its : List W) (src : Src) (ρ : List Addr) (H : Hp) : Prop :=
  ∀ (i : Nat) ρ' (G' : GH) H', Ext ρ H ρ' H' → Rep K ca ρ' G' H' → still src G' = true →
    (∀ w, its[i]? = some w → J.go i H' ∧ ∀ x H2, J.yld i H' x H2 → Ext ρ' H' ρ' H2 ∧ Rep K ca ρ' G' H2 ∧ RelW K ca ρ' H2 x w) ∧ (its.length ≤ i → J.stop i H')
def tI (Wx : WX) (m : M (List W × Src)) : TI := fun σ H R => ∃ ρ G τ, Rep K ca ρ G H ∧ RelS K ca ρ H σ τ ∧
  Post K ca Wx σ ρ H (fun p _ ρ' H' => ∀ J, ItOk K ca J p.1 p.2 ρ' H' → R J H') (m τ G)
end
/-- a target -/
abbrev MG := W → Sl → Option Sl
def tG (K : PySem.W.Frag) (ca : Nat → Addr) (g : MG) : TG := fun v σ H Q => ∃ ρ G τ w, Rep K ca ρ G H ∧ RelS K ca ρ H σ τ ∧ RelW K ca ρ H v w ∧ ∃ τ', g w τ = some τ' ∧ ∀ ρ' H' σ', Ext ρ H ρ' H' → Rep K ca ρ' G H' → RelS K ca ρ' H' σ' τ' → Q σ' H'
noncomputable def forL (src : Src) (g : MG) (b : MS) : List W → Sl → GH → RS
  | [], τ, G => if still src G then .nx τ G else .bad
  | w :: ws, τ, G => if still src G then match g w τ with
      | none => .bad
      | some τ1 => match b τ1 G with
        | .nx τ2 G2 => forL src g b ws τ2 G2
        | .ct τ2 G2 => forL src g b ws τ2 G2
        | .bk τ2 G2 => .nx τ2 G2
        | .rt w G2 => .rt w G2
        | .ex e fs τ2 G2 => .ex e fs τ2 G2
        | .bad => .bad
    else .bad
noncomputable def sFor (m : M (List W × Src)) (g : MG) (b : MS) : MS := fun τ G => (m τ G).toS τ fun p G1 => forL p.2 g b p.1 τ G1
def gN (i : Nat) : MG := fun w τ => some (τ.set i (some w))
section
variable {X : Cx} {ca : Nat → Addr} {Wx : WX} {pos : Pos}
theorem g_name {i : Nat} {x : Str} (hN : X.N.Nodup) (hi : X.N[i]? = some x) (hx : Loc X.env.scope x) (hf : X.fn x = true ∨ X.env.scope.names.lookup x = some .local := by first | exact .inl rfl | exact .inr rfl | assumption) : PG X (.Name x pos) (tG X.K ca (gN i)) := by
  refine ⟨fun pins s σ H v u Q I rv h => (pg_name hN hi hx hf).run pins s σ H v u Q I rv ?_⟩
  obtain ⟨ρ, G, τ, w, r, s, q, τ', e, h⟩ := h
  cases e
  exact h ρ H _ .refl r (s.set i q)
theorem s_for {tg iter : Expr} {body : List Stmt} {mi : M (List W × Src)} {g : MG} {mb : MS} (hp : PassesOwn (model X.prog X.w) X.A X.env X.xe) (hc : X.calm = true) (hi : PI X tg iter (tI X.K ca Wx mi)) (hg : PG X tg (tG X.K ca g)) (hb : PSs X body (tS X.K ca Wx mb))
    (hs : ∀ x, foldedSetIterable iter X.env x = pure x := by intro _; rfl) : PS X (.For tg iter body [] pos) (tS X.K ca Wx (sFor mi g mb)) := by
  refine PS.weak (ps_for hp hc hi hg hb hs) fun D σ H ⟨ρ, G, τ, r, s, h⟩ => ?_
  refine ⟨ρ, G, τ, r, s, (PostS.of s r h).imp fun p G1 ρ1 H1 x1 r1 h1 J hJ => ?_⟩
  obtain ⟨its, src⟩ := p
  refine ⟨fun i m σ' H' => m = its.length - i ∧ i ≤ its.length ∧ ∃ ρ' G' τ', Ext ρ1 H1 ρ' H' ∧ Rep X.K ca ρ' G' H' ∧ RelS X.K ca ρ' H' σ' τ' ∧ PostS X.K ca Wx D ρ' H' (forL src g mb (its.drop i) τ' G'),
    ⟨its.length, rfl, Nat.zero_le _, ρ1, G1, τ, .refl, r1, s.ext r x1, h1⟩, ?_⟩
  rintro i m σ2 H2 ⟨rfl, hi, ρ2, G2, τ2, x2, r2, s2, h2⟩
  by_cases hlt : i < its.length
  · rw [List.drop_eq_getElem_cons hlt] at h2
    unfold forL at h2
    cases hs : still src G2 with
    | false => rw [hs] at h2; exact h2.elim
    | true =>
      rw [hs, if_pos rfl] at h2
      obtain ⟨hgo, _⟩ := hJ i ρ2 G2 H2 x2 r2 hs
      obtain ⟨go, yl⟩ := hgo its[i] (List.getElem?_eq_getElem hlt)
      refine .inr ⟨go, fun σ' H' => ∃ ρ' G' τ', Ext ρ1 H1 ρ' H' ∧ Rep X.K ca ρ' G' H' ∧ RelS X.K ca ρ' H' σ' τ' ∧ PostS X.K ca Wx D ρ' H' (forL src g mb (its.drop (i + 1)) τ' G'),
        fun σ' H' hw => ⟨its.length - (i + 1), by omega, rfl, hlt, hw⟩, fun x H3 hy => ?_⟩
      obtain ⟨x3, r3, q3⟩ := yl x H3 hy
      cases e : g its[i] τ2 with
      | none => rw [e] at h2; exact h2.elim
      | some τ3 =>
        rw [e] at h2
        refine ⟨ρ2, G2, τ2, its[i], r3, s2.ext r2 x3, q3, τ3, e, fun ρ4 H4 σ4 x4 r4 s4 => ⟨ρ4, G2, τ3, r4, s4, ?_⟩⟩
        have x04 := (x2.trans x3).trans x4
        have x24 := x3.trans x4
        dsimp only at h2
        cases eb : mb τ3 G2 with
        | nx τ5 G5 => rw [eb] at h2; exact fun ρ' H' σ' x r s => ⟨ρ', G5, τ5, x04.trans x, r, s, PostS.later h2 (x24.trans x)⟩
        | ct τ5 G5 => rw [eb] at h2; exact fun ρ' H' σ' x r s => ⟨ρ', G5, τ5, x04.trans x, r, s, PostS.later h2 (x24.trans x)⟩
        | bk τ5 G5 => rw [eb] at h2; exact PostS.later (r := .nx τ5 G5) h2 x24
        | rt w G5 => rw [eb] at h2; exact PostS.later (r := .rt w G5) h2 x24
        | ex c fs τ5 G5 => rw [eb] at h2; exact PostS.later (r := .ex c fs τ5 G5) h2 x24
        | bad => rw [eb] at h2; exact h2
  · have e : i = its.length := by omega
    subst e
    rw [List.drop_length] at h2
    unfold forL at h2
    cases hs : still src G2 with
    | false => rw [hs] at h2; exact h2.elim
    | true =>
      rw [hs, if_pos rfl] at h2
      obtain ⟨_, hst⟩ := hJ its.length ρ2 G2 H2 x2 r2 hs
      exact .inl ⟨hst (Nat.le_refl _), h2 ρ2 H2 σ2 .refl r2 s2⟩
/-! what is walked -/
def srcOf : T → List W → Src
  | .val (.loc n), ws => [(n, ws)]
  | _, _ => []
def iterL (t : T) (G : GH) : R (List W × Src) := match rdl t G with
  | some ws => .ok (ws, srcOf t ws) G
  | none => .bad
def miL (m : M T) : M (List W × Src) := fun τ G => (m τ G).bind iterL
theorem still_one {n : Nat} {ws : List W} {G : GH} (h : still [(n, ws)] G = true) : G[n]?.bind GO.rd = some ws := by
  exact still_iff.mp h (n, ws) (List.mem_singleton.mpr rfl)
/-- the list stays to be read -/
theorem rdl_later {K : PySem.W.Frag} {ρ ρ' : List Addr} {G G' : GH} {H0 H H' : Hp} {v : V} {t : T} {ws : List W} (q : RelT K ca H0 ρ H v t) (h : rdl t G = some ws) (r : Rep K ca ρ G H) (x : Ext ρ H ρ' H') (r' : Rep K ca ρ' G' H') (hs : still (srcOf t ws) G' = true) :
    ∃ a vs, v = .ref a ∧ SqL K H' a vs ∧ RelWs K ca ρ' H' vs ws := by
  have h' : rdl t G' = some ws := by
    cases t with
    | tmp us => exact h
    | val w =>
      cases w with
      | loc n => exact still_one hs
      | _ => exact h
  exact rdl_of r' (q.ext r x) h'
theorem itl_ok {K : PySem.W.Frag} {ρ : List Addr} {G : GH} {H0 H : Hp} {a : Addr} {t : T} {ws : List W} (q : RelT K ca H0 ρ H (.ref a) t) (h : rdl t G = some ws) (r : Rep K ca ρ G H) : ItOk K ca (Itl K a) ws (srcOf t ws) ρ H := by
  intro i ρ' G' H' x r' hs
  obtain ⟨b, vs, e, hv, qs⟩ := rdl_later q h r x r' hs
  cases e
  refine ⟨fun w hw => ?_, fun hl => ⟨vs, hv, by rw [qs.length]; exact hl⟩⟩
  obtain ⟨v, e1, q1⟩ := relWs_get qs hw
  refine ⟨⟨vs, v, hv, e1⟩, fun y H2 hy => ?_⟩
  obtain ⟨rfl, hy⟩ := hy
  have e2 := hy vs hv
  rw [e1] at e2
  cases e2
  exact ⟨.refl, r', q1⟩
end
end Sy
set_option Elab.async false
set_option linter.all false
set_option maxRecDepth 100000
set_option maxHeartbeats 4000000
namespace Sy
open PySem PySem.Spec PyProof.Rows L2

/-! walks -/
section
variable {X : Cx} {ca : Nat → Addr} {Wx : WX} {pos : Pos} {tg : Expr}
theorem PI.weak {X : Cx} {tg e : Expr} {t t' : TI} (h : PI X tg e t) (f : ∀ σ H R, t' σ H R → t σ H R) : PI X tg e t' := ⟨fun pins s σ H R I q => h.run pins s σ H R I (f σ H R q)⟩
theorem it_lst {pins : List (Addr × Obj)} {σ : SSt} {H : Hp} {s : Shared} {R : It → Hp → Prop} {a : Addr} {vs : List V} (I : Inv X pins σ H s) (hq : SqL X.K H a vs) (q : R (Itl X.K a) H) :
    wpAny (model X.prog X.w) X.A (pyIter (.ref a)) (PIE X pins σ tg R) X.xe s := by
  obtain ⟨its, rv, p, hz⟩ := I.list hq
  refine wpAny_pyIter_list p.isList ?_
  have J : Inv X pins σ H { s with heap := s.heap.push { cls := .type "list_iterator", data := .fields #[.ref a, rawInt 0] } } := I.kept (t' := s.toks) fun b o e => Heap.get?_push_of_some _ e
  refine ⟨s.heap.objs.size, [s.heap.objs.size], _, _, H, rfl, J, turn_list a _, ⟨_, Heap.get?_push_size _ rfl, rfl, rfl⟩, fun b hb => ?_, q⟩
  obtain rfl : b = s.heap.objs.size := by simpa using hb
  exact I.fpOk (Nat.le_refl _) (I.hok.fresh (Nat.le_refl _))
theorem it_tpl {pins : List (Addr × Obj)} {σ : SSt} {H : Hp} {s : Shared} {R : It → Hp → Prop} {a : Addr} {vs : List V} (I : Inv X pins σ H s) (hq : SqT X.K H a vs) (q : R (Itt X.K a) H) :
    wpAny (model X.prog X.w) X.A (pyIter (.ref a)) (PIE X pins σ tg R) X.xe s := by
  obtain ⟨its, rv, p, hz⟩ := I.tuple hq
  refine wpAny_pyIter_tuple (show s.heap.IsTuple a its.toArray from p) ?_
  have J : Inv X pins σ H { s with heap := s.heap.push { cls := .type "tuple_iterator", data := .fields #[.ref a, rawInt 0] } } := I.kept (t' := s.toks) fun b o e => Heap.get?_push_of_some _ e
  refine ⟨s.heap.objs.size, [s.heap.objs.size], _, _, H, rfl, J, turn_tuple a _, ⟨_, Heap.get?_push_size _ rfl, rfl, rfl⟩, fun b hb => ?_, q⟩
  obtain rfl : b = s.heap.objs.size := by simpa using hb
  exact I.fpOk (Nat.le_refl _) (I.hok.fresh (Nat.le_refl _))
theorem it_txt {pins : List (Addr × Obj)} {σ : SSt} {H : Hp} {s : Shared} {R : It → Hp → Prop} {x : Str} {t : Tok} (I : Inv X pins σ H s) (q : R (Its x) H) :
    wpAny (model X.prog X.w) X.A (pyIter (.str x t)) (PIE X pins σ tg R) X.xe s := by
  cases ha : x.cps.all (· < 128)
  · exact wpAny_pyIter_wide ha (pi_one (tk := s.toks) I _ (turn_str _ x t "str_iterator" (.inr rfl)) ⟨_, Heap.get?_push_size _ rfl, rfl, rfl⟩ q)
  · exact wpAny_pyIter_ascii ha (pi_one (tk := s.toks) I _ (turn_str _ x t "str_ascii_iterator" (.inl rfl)) ⟨_, Heap.get?_push_size _ rfl, rfl, rfl⟩ q)
def signsW (x : Str) : List W := x.cps.toList.map fun c => .str ⟨#[c]⟩
/-- a list, a tuple, a text -/
def iterA (t : T) (G : GH) : R (List W × Src) := match t with
  | .tmp ws => .ok (ws, []) G
  | .val w => match w with
    | .tup ws => .ok (ws, []) G
    | .str x => .ok (signsW x, []) G
    | .frl ws => .ok (ws, []) G
    | .loc n => match rdw G (.loc n) with
      | some ws => .ok (ws, [(n, ws)]) G
      | none => .bad
    | _ => .bad
def miA (m : M T) : M (List W × Src) := fun τ G => (m τ G).bind iterA
theorem itt_ok {K : PySem.W.Frag} {ρ : List Addr} {G : GH} {H : Hp} {a : Addr} {vs : List V} {ws : List W} (r : Rep K ca ρ G H) (hv : SqT K H a vs) (q : RelWs K ca ρ H vs ws) : ItOk K ca (Itt K a) ws [] ρ H := by
  intro i ρ' G' H' x r' _
  have hv' := (r.stay x).sqT hv
  have q' := relWs_ext q r x
  refine ⟨fun w hw => ?_, fun hl => ⟨vs, hv', by rw [q.length]; exact hl⟩⟩
  obtain ⟨v, e1, q1⟩ := relWs_get q' hw
  refine ⟨⟨vs, v, hv', e1⟩, fun y H2 hy => ?_⟩
  obtain ⟨rfl, hy⟩ := hy
  have e2 := hy vs hv'
  rw [e1] at e2
  cases e2
  exact ⟨.refl, r', q1⟩
theorem its_ok {K : PySem.W.Frag} {ρ : List Addr} {H : Hp} {x : Str} : ItOk K ca (Its x) (signsW x) [] ρ H := by
  intro i ρ' G' H' e r' _
  have hl : (signsW x).length = x.cps.size := by unfold signsW; simp
  refine ⟨fun w hw => ?_, fun h => by show x.cps.size ≤ i; omega⟩
  have h1 : i < x.cps.size := by rw [← hl]; exact (List.getElem?_eq_some_iff.mp hw).1
  refine ⟨h1, fun y H2 hy => ?_⟩
  obtain ⟨rfl, c, hc, rfl⟩ := hy
  unfold signsW at hw
  rw [List.getElem?_map, Array.getElem?_toList, hc] at hw
  cases hw
  exact ⟨.refl, r', .str _⟩
theorem i_any {e : Expr} {m : M T} (he : PE X e (tE X.K ca Wx m)) : PI X tg e (tI X.K ca Wx (miA m)) := by
  refine ⟨fun pins s σ H R I ⟨ρ, G, τ, r, sl, h⟩ => ?_⟩
  refine thn (he.run pins s σ H (fun v H1 => ∃ ρ1 G1 t, RelT X.K ca H ρ1 H1 v t ∧ Rep X.K ca ρ1 G1 H1 ∧ Post X.K ca Wx σ ρ1 H1 (fun p _ ρ' H' => ∀ J, ItOk X.K ca J p.1 p.2 ρ' H' → R J H') (iterA t G1)) I ?_) fun u s1 hh => ?_
  · exact tE.seq r sl h fun t G1 ρ1 H1 v x1 r1 s1 q1 h1 => ⟨ρ1, G1, t, q1, r1, h1⟩
  · obtain ⟨v, H1, I1, rv, ρ1, G1, t, q1, r1, h1⟩ := hh
    cases t with
    | tmp ws =>
      obtain ⟨p, vs, rfl, hn, h0, hp, qs⟩ := q1
      cases rv
      exact it_lst I1 (.of hp) (h1 ρ1 H1 .refl r1 _ (itl_ok (t := .tmp ws) (H0 := H) ⟨p, vs, rfl, hn, h0, hp, qs⟩ rfl r1))
    | val w =>
      cases w with
      | tup ws =>
        obtain ⟨a, vs, rfl, hv, qs⟩ := relW_tup q1
        cases rv
        exact it_tpl I1 hv (h1 ρ1 H1 .refl r1 _ (itt_ok r1 hv qs))
      | frl ws =>
        obtain ⟨a, vs, rfl, hv, qs⟩ := relW_frl q1
        cases rv
        exact it_lst I1 hv.sq (h1 ρ1 H1 .refl r1 _ (itl_ok (t := .val (.frl ws)) (H0 := H) q1 rfl r1))
      | str x =>
        cases q1
        obtain ⟨t, rfl⟩ := rv
        exact it_txt I1 (h1 ρ1 H1 .refl r1 _ its_ok)
      | loc n =>
        cases e : rdw G1 (.loc n) with
        | none =>
          have h1' : Post X.K ca Wx σ ρ1 H1 (fun (p : List W × Src) _ ρ' H' => ∀ J, ItOk X.K ca J p.1 p.2 ρ' H' → R J H') (match rdw G1 (.loc n) with | some ws => .ok (ws, [(n, ws)]) G1 | none => .bad) := h1
          rw [e] at h1'
          exact h1'.elim
        | some ws =>
          have h1' : Post X.K ca Wx σ ρ1 H1 (fun (p : List W × Src) _ ρ' H' => ∀ J, ItOk X.K ca J p.1 p.2 ρ' H' → R J H') (match rdw G1 (.loc n) with | some ws => .ok (ws, [(n, ws)]) G1 | none => .bad) := h1
          rw [e] at h1'
          obtain ⟨a, vs, rfl, hv, qs⟩ := rdw_of r1 q1 e
          cases rv
          exact it_lst I1 hv (h1' ρ1 H1 .refl r1 _ (itl_ok (t := .val (.loc n)) (H0 := H) q1 e r1))
      | _ => exact h1.elim
/-! ranges -/
def rangeW (lo : Int) (n : Nat) : List W := (List.range n).map fun (i : Nat) => .int (lo + (i : Int))
theorem itr_ok {K : PySem.W.Frag} {ρ : List Addr} {H : Hp} {lo : Int} {n : Nat} : ItOk K ca (Itr lo n) (rangeW lo n) [] ρ H := by
  intro i ρ' G' H' e r' _
  have hl : (rangeW lo n).length = n := by unfold rangeW; simp
  refine ⟨fun w hw => ?_, fun h => by show n ≤ i; omega⟩
  have h1 : i < n := by rw [← hl]; exact (List.getElem?_eq_some_iff.mp hw).1
  refine ⟨h1, fun y H2 hy => ?_⟩
  obtain ⟨rfl, rfl⟩ := hy
  unfold rangeW at hw
  rw [List.getElem?_map, List.getElem?_range h1] at hw
  cases hw
  exact ⟨.refl, r', .int _⟩
def in62 (i : Int) : Bool := decide (-(2 ^ 62) ≤ i) && decide (i < 2 ^ 62)
def iterR (ws : List W) (G : GH) : R (List W × Src) := match ws with
  | [.int j] => if in62 j then .ok (rangeW 0 j.toNat, []) G else .bad
  | _ => .bad
def iterR2 (ws : List W) (G : GH) : R (List W × Src) := match ws with
  | [.int i, .int j] => if in62 i && in62 j then .ok (rangeW i (j - i).toNat, []) G else .bad
  | _ => .bad
def miR (m : M (List W)) : M (List W × Src) := fun τ G => (m τ G).bind iterR
def miR2 (m : M (List W)) : M (List W × Src) := fun τ G => (m τ G).bind iterR2
theorem relWs_one {K : PySem.W.Frag} {ρ : List Addr} {H : Hp} {vs : List V} {w : W} (q : RelWs K ca ρ H vs [w]) : ∃ v, vs = [v] ∧ RelW K ca ρ H v w := by
  cases q with
  | cons q t => cases t; exact ⟨_, rfl, q⟩
theorem relWs_two {K : PySem.W.Frag} {ρ : List Addr} {H : Hp} {vs : List V} {w u : W} (q : RelWs K ca ρ H vs [w, u]) : ∃ v z, vs = [v, z] ∧ RelW K ca ρ H v w ∧ RelW K ca ρ H z u := by
  cases q with
  | cons q t =>
    cases t with
    | cons q2 t2 => cases t2; exact ⟨_, _, rfl, q, q2⟩
theorem i_range1 {a : Expr} {m : M (List W)} {p : Pos} (hg : Gl X "range") (hm : X.mg "range" = none) (ha : PA X [a] (tA X.K ca Wx m)) (hs : starEach [a] X.env = [(false, eval a X.env)] := by rfl) : PI X tg (.Call (.Name "range" p) [a] [] pos) (tI X.K ca Wx (miR m)) := by
  refine PI.weak (pi_range1 hg hm ha hs) fun σ H R ⟨ρ, G, τ, r, sl, h⟩ => ?_
  refine tA.seq r sl h fun ws G1 ρ1 H1 vs x1 r1 s1 q1 h1 => ?_
  unfold iterR at h1
  split at h1
  · split at h1
    · rename_i j z
      obtain ⟨v, rfl, qv⟩ := relWs_one q1
      cases qv
      unfold in62 at z
      rw [Bool.and_eq_true] at z
      exact ⟨j, rfl, of_decide_eq_true z.1, of_decide_eq_true z.2, h1 ρ1 H1 .refl r1 _ itr_ok⟩
    · exact h1.elim
  · exact h1.elim
theorem i_range2 {a b : Expr} {m : M (List W)} {p : Pos} (hg : Gl X "range") (hm : X.mg "range" = none) (ha : PA X [a, b] (tA X.K ca Wx m)) (hs : starEach [a, b] X.env = [(false, eval a X.env), (false, eval b X.env)] := by rfl)
    (hs2 : starEach [b] X.env = [(false, eval b X.env)] := by rfl) : PI X tg (.Call (.Name "range" p) [a, b] [] pos) (tI X.K ca Wx (miR2 m)) := by
  refine PI.weak (pi_range2 hg hm ha hs hs2) fun σ H R ⟨ρ, G, τ, r, sl, h⟩ => ?_
  refine tA.seq r sl h fun ws G1 ρ1 H1 vs x1 r1 s1 q1 h1 => ?_
  unfold iterR2 at h1
  split at h1
  · split at h1
    · rename_i i j z
      obtain ⟨v, u, rfl, qv, qu⟩ := relWs_two q1
      cases qv
      cases qu
      unfold in62 at z
      rw [Bool.and_eq_true, Bool.and_eq_true, Bool.and_eq_true] at z
      exact ⟨i, j, rfl, ⟨of_decide_eq_true z.1.1, of_decide_eq_true z.1.2, of_decide_eq_true z.2.1, of_decide_eq_true z.2.2⟩, h1 ρ1 H1 .refl r1 _ itr_ok⟩
    · exact h1.elim
  · exact h1.elim

/-! arguments that nobody holds yet -/
abbrev RelTs (K : PySem.W.Frag) (ca : Nat → Addr) (H0 : Hp) (ρ : List Addr) (H : Hp) (vs : List V) (ts : List T) : Prop := Paired (RelT K ca H0 ρ H) vs ts
def tB (K : PySem.W.Frag) (ca : Nat → Addr) (Wx : WX) (m : M (List T)) : TA := fun σ H Q => ∃ ρ G τ, Rep K ca ρ G H ∧ RelS K ca ρ H σ τ ∧ Post K ca Wx σ ρ H (fun ts _ ρ' H' => ∀ vs, RelTs K ca H ρ' H' vs ts → Q vs H') (m τ G)
def mNilT : M (List T) := fun _ G => .ok [] G
def mConsT (a : M T) (r : M (List T)) : M (List T) := fun τ G => (a τ G).bind fun t G1 => (r τ G1).bind fun ts G2 => .ok (t :: ts) G2
theorem c_nil : PA X [] (tB X.K ca Wx mNilT) := PA.weak pa_nil fun σ H Q ⟨ρ, G, τ, r0, s0, h⟩ => h ρ H .refl r0 [] .nil
theorem c_cons {e : Expr} {es : List Expr} {m : M T} {ms : M (List T)} (he : PE X e (tE X.K ca Wx m)) (hr : PA X es (tB X.K ca Wx ms)) (hs : starEach (e :: es) X.env = (false, eval e X.env) :: starEach es X.env := by rfl) :
    PA X (e :: es) (tB X.K ca Wx (mConsT m ms)) := by
  refine PA.weak (pa_cons he hr hs) fun σ H Q ⟨ρ, G, τ, r0, s0, h⟩ => ?_
  refine tE.seq r0 s0 h fun t G1 ρ1 H1 v x1 r1 s1 q1 h1 => ?_
  refine ⟨ρ1, G1, τ, r1, s1, h1.bind.imp fun ts G2 ρ2 H2 x2 r2 h2 vs qs => ?_⟩
  exact h2 ρ2 H2 .refl r2 (v :: vs) (.cons (q1.ext r1 x2) (paired_imp qs fun _ _ z => z.back x1 x2))
theorem tB.seq {α : Type} {σ : SSt} {ρ : List Addr} {G : GH} {τ : Sl} {H : Hp} {m : M (List T)} {k : List T → GH → R α} {P : α → GH → List Addr → Hp → Prop} {Q : List V → Hp → Prop} (r : Rep X.K ca ρ G H) (s : RelS X.K ca ρ H σ τ) (h : Post X.K ca Wx σ ρ H P ((m τ G).bind k))
    (hk : ∀ ts G1 ρ1 H1 vs, Ext ρ H ρ1 H1 → Rep X.K ca ρ1 G1 H1 → RelS X.K ca ρ1 H1 σ τ → RelTs X.K ca H ρ1 H1 vs ts → Post X.K ca Wx σ ρ1 H1 P (k ts G1) → Q vs H1) : tB X.K ca Wx m σ H Q :=
  ⟨ρ, G, τ, r, s, h.bind.imp fun ws G1 ρ1 H1 x r1 q vs rv => hk ws G1 ρ1 H1 vs x r1 (s.ext r x) rv q⟩
theorem relTs_one {K : PySem.W.Frag} {ρ : List Addr} {H0 H : Hp} {vs : List V} {t : T} (q : RelTs K ca H0 ρ H vs [t]) : ∃ v, vs = [v] ∧ RelT K ca H0 ρ H v t := by
  cases q with
  | cons q t => cases t; exact ⟨_, rfl, q⟩
theorem relTs_two {K : PySem.W.Frag} {ρ : List Addr} {H0 H : Hp} {vs : List V} {t u : T} (q : RelTs K ca H0 ρ H vs [t, u]) : ∃ v z, vs = [v, z] ∧ RelT K ca H0 ρ H v t ∧ RelT K ca H0 ρ H z u := by
  cases q with
  | cons q t =>
    cases t with
    | cons q2 t2 => cases t2; exact ⟨_, _, rfl, q, q2⟩
/-! enumerate, zip, reversed -/
def enumW (ws : List W) : List W := (ws.zipIdx).map fun p => .tup [.int (p.2 : Int), p.1]
def zipW (ws us : List W) : List W := (ws.zip us).map fun p => .tup [p.1, p.2]
def iterE (ts : List T) (G : GH) : R (List W × Src) := match ts with
  | [t] => match rdl t G with
    | some ws => .ok (enumW ws, srcOf t ws) G
    | none => match rdt t with
      | some ws => .ok (enumW ws, []) G
      | none => .bad
  | _ => .bad
def iterZ (ts : List T) (G : GH) : R (List W × Src) := match ts with
  | [t, u] => match rdl t G, rdl u G with
    | some ws, some us => .ok (zipW ws us, srcOf t ws ++ srcOf u us) G
    | _, _ => match rdt t, rdt u with
      | some ws, some us => .ok (zipW ws us, []) G
      | _, _ => .bad
  | _ => .bad
def iterV (ts : List T) (G : GH) : R (List W × Src) := match ts with
  | [t] => match rdl t G with
    | some ws => .ok (ws.reverse, srcOf t ws) G
    | none => .bad
  | _ => .bad
def miB (f : List T → GH → R (List W × Src)) (m : M (List T)) : M (List W × Src) := fun τ G => (m τ G).bind f
theorem pair_new {K : PySem.W.Frag} {ρ : List Addr} {G : GH} {H : Hp} {p : Addr} {x y : V} {w u : W} (r : Rep K ca ρ G H) (hp : H p = none) (q : RelW K ca ρ H x w) (q2 : RelW K ca ρ H y u) :
    Ext ρ H ρ (upd H p (.tup [x, y])) ∧ Rep K ca ρ G (upd H p (.tup [x, y])) ∧ RelW K ca ρ (upd H p (.tup [x, y])) (.ref p) (.tup [w, u]) :=
  ⟨.laid hp, r.laid hp, RelW.tup' (.of upd_same) (.cons (q.ext r (.laid hp)) (.cons (q2.ext r (.laid hp)) .nil))⟩
theorem ite_ok {K : PySem.W.Frag} {ρ : List Addr} {G : GH} {H0 H : Hp} {a : Addr} {t : T} {ws : List W} (q : RelT K ca H0 ρ H (.ref a) t) (h : rdl t G = some ws) (r : Rep K ca ρ G H) : ItOk K ca (Ite K a) (enumW ws) (srcOf t ws) ρ H := by
  intro i ρ' G' H' x r' hs
  obtain ⟨b, vs, e, hv, qs⟩ := rdl_later q h r x r' hs
  cases e
  have hl : (enumW ws).length = ws.length := by unfold enumW; simp
  refine ⟨fun w hw => ?_, fun hl' => ⟨vs, hv, by rw [qs.length]; omega⟩⟩
  unfold enumW at hw
  rw [List.getElem?_map, List.getElem?_zipIdx] at hw
  cases e0 : ws[i]? with
  | none => rw [e0] at hw; cases hw
  | some w0 =>
    rw [e0] at hw
    have hw' : W.tup [.int ((0 + i : Nat) : Int), w0] = w := by simpa using hw
    obtain ⟨v, e1, q1⟩ := relWs_get qs e0
    refine ⟨⟨vs, v, hv, e1⟩, fun y H2 hy => ?_⟩
    obtain ⟨T, z, rfl, hT, rfl, hy⟩ := hy
    have e2 := hy vs hv
    rw [e1] at e2
    cases e2
    rw [← hw', Nat.zero_add]
    exact pair_new r' hT (.int _) q1
theorem iteT_ok {K : PySem.W.Frag} {ρ : List Addr} {G : GH} {H : Hp} {a : Addr} {vs : List V} {ws : List W} (r : Rep K ca ρ G H) (hv : SqT K H a vs) (q : RelWs K ca ρ H vs ws) : ItOk K ca (IteT K a) (enumW ws) [] ρ H := by
  intro i ρ' G' H' x r' _
  have hv' := (r.stay x).sqT hv
  have qs := relWs_ext q r x
  have hl : (enumW ws).length = ws.length := by unfold enumW; simp
  refine ⟨fun w hw => ?_, fun hl' => ⟨vs, hv', by rw [qs.length]; omega⟩⟩
  unfold enumW at hw
  rw [List.getElem?_map, List.getElem?_zipIdx] at hw
  cases e0 : ws[i]? with
  | none => rw [e0] at hw; cases hw
  | some w0 =>
    rw [e0] at hw
    have hw' : W.tup [.int ((0 + i : Nat) : Int), w0] = w := by simpa using hw
    obtain ⟨v, e1, q1⟩ := relWs_get qs e0
    refine ⟨⟨vs, v, hv', e1⟩, fun y H2 hy => ?_⟩
    obtain ⟨T, z, rfl, hT, rfl, hy⟩ := hy
    have e2 := hy vs hv'
    rw [e1] at e2
    cases e2
    rw [← hw', Nat.zero_add]
    exact pair_new r' hT (.int _) q1
theorem itzT_ok {K : PySem.W.Frag} {ρ : List Addr} {G : GH} {H : Hp} {a b : Addr} {vs us : List V} {ws xs : List W} (r : Rep K ca ρ G H) (hv : SqT K H a vs) (q : RelWs K ca ρ H vs ws) (hu : SqT K H b us) (p : RelWs K ca ρ H us xs) : ItOk K ca (RZ.ItzT K a b) (zipW ws xs) [] ρ H := by
  intro i ρ' G' H' x r' _
  have hv' := (r.stay x).sqT hv
  have hu' := (r.stay x).sqT hu
  have qs := relWs_ext q r x
  have ps := relWs_ext p r x
  have hl : (zipW ws xs).length = min ws.length xs.length := by unfold zipW; simp
  refine ⟨fun w hw => ?_, fun hl' => ⟨vs, us, hv', hu', by rw [qs.length, ps.length]; omega⟩⟩
  unfold zipW at hw
  rw [List.getElem?_map] at hw
  cases e0 : (ws.zip xs)[i]? with
  | none => rw [e0] at hw; cases hw
  | some p0 =>
    rw [e0] at hw
    have hw' : W.tup [p0.1, p0.2] = w := by simpa using hw
    obtain ⟨hi1, hi2⟩ := List.getElem?_zip_eq_some.mp e0
    obtain ⟨v, e1, q1⟩ := relWs_get qs hi1
    obtain ⟨v2, e12, q12⟩ := relWs_get ps hi2
    refine ⟨⟨vs, us, v, v2, hv', hu', e1, e12⟩, fun y H2 hy => ?_⟩
    obtain ⟨T, z, z2, rfl, hT, rfl, hy, hy2⟩ := hy
    have e2 := hy vs hv'
    rw [e1] at e2
    cases e2
    have e22 := hy2 us hu'
    rw [e12] at e22
    cases e22
    rw [← hw']
    exact pair_new r' hT q1 q12
theorem itz_ok {K : PySem.W.Frag} {ρ : List Addr} {G : GH} {H0 H : Hp} {a b : Addr} {t u : T} {ws us : List W} (q : RelT K ca H0 ρ H (.ref a) t) (h : rdl t G = some ws) (q2 : RelT K ca H0 ρ H (.ref b) u) (h2 : rdl u G = some us) (r : Rep K ca ρ G H) :
    ItOk K ca (Itz K a b) (zipW ws us) (srcOf t ws ++ srcOf u us) ρ H := by
  intro i ρ' G' H' x r' hs
  have hs1 : still (srcOf t ws) G' = true := still_iff.mpr fun p hp => still_iff.mp hs p (List.mem_append_left _ hp)
  have hs2 : still (srcOf u us) G' = true := still_iff.mpr fun p hp => still_iff.mp hs p (List.mem_append_right _ hp)
  obtain ⟨a', vs, e, hv, qs⟩ := rdl_later q h r x r' hs1
  cases e
  obtain ⟨b', vs2, e, hv2, qs2⟩ := rdl_later q2 h2 r x r' hs2
  cases e
  have hl : (zipW ws us).length = min ws.length us.length := by unfold zipW; simp
  refine ⟨fun w hw => ?_, fun hl' => ⟨vs, vs2, hv, hv2, by rw [qs.length, qs2.length]; omega⟩⟩
  unfold zipW at hw
  rw [List.getElem?_map] at hw
  cases e0 : (ws.zip us)[i]? with
  | none => rw [e0] at hw; cases hw
  | some p =>
    rw [e0] at hw
    have hw' : W.tup [p.1, p.2] = w := by simpa using hw
    obtain ⟨hi1, hi2⟩ := List.getElem?_zip_eq_some.mp e0
    obtain ⟨v, e1, q1⟩ := relWs_get qs hi1
    obtain ⟨v2, e12, q12⟩ := relWs_get qs2 hi2
    refine ⟨⟨vs, vs2, v, v2, hv, hv2, e1, e12⟩, fun y H2 hy => ?_⟩
    obtain ⟨T, z, z2, rfl, hT, rfl, hy, hy2⟩ := hy
    have e2 := hy vs hv
    rw [e1] at e2
    cases e2
    have e22 := hy2 vs2 hv2
    rw [e12] at e22
    cases e22
    rw [← hw']
    exact pair_new r' hT q1 q12
theorem itv_ok {K : PySem.W.Frag} {ρ : List Addr} {G : GH} {H0 H : Hp} {a : Addr} {n : Nat} {t : T} {ws : List W} (q : RelT K ca H0 ρ H (.ref a) t) (h : rdl t G = some ws) (hn : n = ws.length) (r : Rep K ca ρ G H) : ItOk K ca (Itv K a n) ws.reverse (srcOf t ws) ρ H := by
  subst hn
  intro i ρ' G' H' x r' hs
  obtain ⟨b, vs, e, hv, qs⟩ := rdl_later q h r x r' hs
  cases e
  refine ⟨fun w hw => ?_, fun hl' => by show ws.length ≤ i; simpa using hl'⟩
  have h1 : i < ws.length := by simpa using (List.getElem?_eq_some_iff.mp hw).1
  rw [List.getElem?_reverse h1] at hw
  obtain ⟨v, e1, q1⟩ := relWs_get qs hw
  refine ⟨⟨h1, vs, v, hv, e1⟩, fun y H2 hy => ?_⟩
  obtain ⟨rfl, hy⟩ := hy
  have e2 := hy vs hv
  rw [e1] at e2
  cases e2
  exact ⟨.refl, r', q1⟩
theorem i_enum {e : Expr} {elts : List Expr} {kk : Nat} {p tpos : Pos} {m : M (List T)} (hg : Gl X "enumerate") (hm : X.mg "enumerate" = none) (ha : PA X [e] (tB X.K ca Wx m)) (hs : starEach [e] X.env = [(false, eval e X.env)] := by rfl) :
    PI X (.Tuple elts kk tpos) (.Call (.Name "enumerate" p) [e] [] pos) (tI X.K ca Wx (miB iterE m)) := by
  refine PI.weak (pi_enumA hg hm ha hs) fun σ H R ⟨ρ, G, τ, r, sl, h⟩ => ?_
  refine tB.seq r sl h fun ts G1 ρ1 H1 vs x1 r1 s1 q1 h1 => ?_
  unfold iterE at h1
  split at h1
  · rename_i t
    obtain ⟨v, rfl, qv⟩ := relTs_one q1
    cases e0 : rdl t G1 with
    | none =>
      rw [e0] at h1
      dsimp only at h1
      cases e1 : rdt t with
      | none => rw [e1] at h1; exact h1.elim
      | some ws =>
        rw [e1] at h1
        obtain ⟨a, vs, rfl, hv, qs⟩ := rdt_of qv e1
        exact ⟨a, vs, rfl, .inr ⟨hv, h1 ρ1 H1 .refl r1 _ (iteT_ok r1 hv qs)⟩⟩
    | some ws =>
      rw [e0] at h1
      obtain ⟨a, vs, rfl, hv, qs⟩ := rdl_of r1 qv e0
      exact ⟨a, vs, rfl, .inl ⟨hv, h1 ρ1 H1 .refl r1 _ (ite_ok qv e0 r1)⟩⟩
  · exact h1.elim
theorem i_zip {e e2 : Expr} {elts : List Expr} {kk : Nat} {p tpos : Pos} {m : M (List T)} (hg : Gl X "zip") (hm : X.mg "zip" = none) (ha : PA X [e, e2] (tB X.K ca Wx m)) (hs : starEach [e, e2] X.env = (false, eval e X.env) :: starEach [e2] X.env := by rfl) (hpl : (backTo pos (starEach [e2] X.env)).any (·.1) = false := by rfl) :
    PI X (.Tuple elts kk tpos) (.Call (.Name "zip" p) [e, e2] [] pos) (tI X.K ca Wx (miB iterZ m)) := by
  refine PI.weak (RZ.pi_zipA hg hm ha hs hpl) fun σ H R ⟨ρ, G, τ, r, sl, h⟩ => ?_
  refine tB.seq r sl h fun ts G1 ρ1 H1 vs x1 r1 s1 q1 h1 => ?_
  unfold iterZ at h1
  split at h1
  · rename_i t u
    obtain ⟨v, v2, rfl, qv, qu⟩ := relTs_two q1
    split at h1
    · rename_i ws us e0 e1
      obtain ⟨a, vs, rfl, hv, qs⟩ := rdl_of r1 qv e0
      obtain ⟨b, vs2, rfl, hv2, qs2⟩ := rdl_of r1 qu e1
      exact ⟨a, b, vs, vs2, rfl, .inl ⟨hv, hv2, h1 ρ1 H1 .refl r1 _ (itz_ok qv e0 qu e1 r1)⟩⟩
    · split at h1
      · rename_i ws us e0 e1
        obtain ⟨a, vs, rfl, hv, qs⟩ := rdt_of qv e0
        obtain ⟨b, vs2, rfl, hv2, qs2⟩ := rdt_of qu e1
        exact ⟨a, b, vs, vs2, rfl, .inr ⟨hv, hv2, h1 ρ1 H1 .refl r1 _ (itzT_ok r1 hv qs hv2 qs2)⟩⟩
      · exact h1.elim
  · exact h1.elim
theorem i_reversed {e : Expr} {p : Pos} {m : M (List T)} (hg : Gl X "reversed") (hm : X.mg "reversed" = none) (ha : PA X [e] (tB X.K ca Wx m)) (hs : starEach [e] X.env = [(false, eval e X.env)] := by rfl) :
    PI X tg (.Call (.Name "reversed" p) [e] [] pos) (tI X.K ca Wx (miB iterV m)) := by
  refine PI.weak (pi_reversed hg hm ha hs) fun σ H R ⟨ρ, G, τ, r, sl, h⟩ => ?_
  refine tB.seq r sl h fun ts G1 ρ1 H1 vs x1 r1 s1 q1 h1 => ?_
  unfold iterV at h1
  split at h1
  · rename_i t
    obtain ⟨v, rfl, qv⟩ := relTs_one q1
    cases e0 : rdl t G1 with
    | none => rw [e0] at h1; exact h1.elim
    | some ws =>
      rw [e0] at h1
      obtain ⟨a, vs, rfl, hv, qs⟩ := rdl_of r1 qv e0
      exact ⟨a, vs, rfl, hv, h1 ρ1 H1 .refl r1 _ (itv_ok qv e0 qs.length r1)⟩
  · exact h1.elim
end
end Sy
set_option Elab.async false
set_option linter.all false
set_option maxRecDepth 100000
set_option maxHeartbeats 4000000
namespace Sy
open PySem PySem.Spec PyProof.Rows L2

/-! tuple targets -/
section
variable {X : Cx} {ca : Nat → Addr} {Wx : WX} {pos : Pos}
def tGs (K : PySem.W.Frag) (ca : Nat → Addr) (g : List W → Sl → Option Sl) : TGs := fun vs σ H Q => ∃ ρ G τ ws, Rep K ca ρ G H ∧ RelS K ca ρ H σ τ ∧ RelWs K ca ρ H vs ws ∧ ∃ τ', g ws τ = some τ' ∧ ∀ ρ' H' σ', Ext ρ H ρ' H' → Rep K ca ρ' G H' → RelS K ca ρ' H' σ' τ' → Q σ' H'
def gE : List W → Sl → Option Sl
  | [], τ => some τ
  | _ :: _, _ => none
def gC (g : MG) (gs : List W → Sl → Option Sl) : List W → Sl → Option Sl
  | [], _ => none
  | w :: ws, τ => (g w τ).bind (gs ws)
def gT (gs : List W → Sl → Option Sl) : MG
  | .tup ws, τ => gs ws τ
  | _, _ => none
theorem PG.weak {X : Cx} {e : Expr} {t t' : TG} (h : PG X e t) (f : ∀ v σ H Q, t' v σ H Q → t v σ H Q) : PG X e t' := ⟨fun pins s σ H v u Q I r q => h.run pins s σ H v u Q I r (f v σ H Q q)⟩
theorem PGs.weak {X : Cx} {e : List Expr} {t t' : TGs} (h : PGs X e t) (f : ∀ v σ H Q, t' v σ H Q → t v σ H Q) : PGs X e t' := ⟨fun pins s σ H v u Q I r q => h.run pins s σ H v u Q I r (f v σ H Q q)⟩
theorem g_nil : PGs X [] (tGs X.K ca gE) := PGs.weak pgs_nil fun vs σ H Q ⟨ρ, G, τ, ws, r, s, q, τ', e, h⟩ => by
  cases q with
  | nil => cases e; exact ⟨rfl, h ρ H σ .refl r s⟩
  | cons _ _ => cases e
theorem g_cons {e : Expr} {es : List Expr} {g : MG} {gs : List W → Sl → Option Sl} (h1 : PG X e (tG X.K ca g)) (h2 : PGs X es (tGs X.K ca gs))
    (hs : (assignEach (e :: es) X.env).map (·.2) = assign e X.env :: (assignEach es X.env).map (·.2) := by rfl) : PGs X (e :: es) (tGs X.K ca (gC g gs)) :=
  PGs.weak (pgs_cons h1 h2 hs) fun vs σ H Q ⟨ρ, G, τ, ws, r, s, q, τ', e, h⟩ => by
    cases ws with
    | nil => cases e
    | cons w ws =>
      have e : (g w τ).bind (gs ws) = some τ' := e
      cases vs with
      | nil => cases q
      | cons v vs =>
        have q0 : RelW X.K ca ρ H v w := by cases q; assumption
        have qt : RelWs X.K ca ρ H vs ws := by cases q; assumption
        cases e1 : g w τ with
        | none => rw [e1] at e; cases e
        | some τ1 =>
          rw [e1] at e
          refine ⟨v, vs, rfl, ρ, G, τ, w, r, s, q0, τ1, e1, fun ρ1 H1 σ1 x1 r1 s1 => ?_⟩
          exact ⟨ρ1, G, τ1, ws, r1, s1, relWs_ext qt r x1, τ', e, fun ρ2 H2 σ2 x2 r2 s2 => h ρ2 H2 σ2 (x1.trans x2) r2 s2⟩
theorem g_tup {es : List Expr} {k n : Nat} {gs : List W → Sl → Option Sl} (hc : X.calm = true) (h : PGs X es (tGs X.K ca gs)) (hl : ∀ ws τ τ', gs ws τ = some τ' → ws.length = n)
    (hn : (assignEach es X.env).length = n := by rfl) (hst : (assignEach es X.env).findIdx? (·.1) = none := by rfl) : PG X (.Tuple es k pos) (tG X.K ca (gT gs)) :=
  PG.weak (pg_tup hc h hn hst) fun v σ H Q ⟨ρ, G, τ, w, r, s, q, τ', e, hq⟩ => by
    cases w with
    | tup ws =>
      obtain ⟨a, vs, rfl, hv, qs⟩ := relW_tup q
      exact ⟨a, vs, rfl, hv, qs.length.trans (hl ws τ τ' e), ρ, G, τ, ws, r, s, qs, τ', e, hq⟩
    | _ => cases e
theorem gl_nil : ∀ ws τ τ', gE ws τ = some τ' → ws.length = 0
  | [], _, _, _ => rfl
theorem gl_cons {g : MG} {gs : List W → Sl → Option Sl} {n : Nat} (h : ∀ ws τ τ', gs ws τ = some τ' → ws.length = n) : ∀ ws τ τ', gC g gs ws τ = some τ' → ws.length = n + 1
  | w :: ws, τ, τ', e => by
    have e : (g w τ).bind (gs ws) = some τ' := e
    cases e1 : g w τ with
    | none => rw [e1] at e; cases e
    | some τ1 => rw [e1] at e; rw [List.length_cons, h ws τ1 τ' e]
/-- target = e -/
def sAsg (g : MG) (m : M T) : MS := fun τ G => (mF m τ G).toS τ fun w G1 => match g w τ with
  | some τ' => .nx τ' G1
  | none => .bad
theorem s_asg {tgt e : Expr} {g : MG} {m : M T} (he : PE X e (tE X.K ca Wx m)) (hg : PG X tgt (tG X.K ca g)) (hs : swapsWithSole [tgt] e pos.line X.env = pure false := by rfl) (hw : swappedStores [tgt] e X.env = pure none := by rfl)
    (h1 : (assignEach [tgt] X.env).map (·.2) = [assign tgt X.env] := by rfl) : PS X (.Assign [tgt] e pos) (tS X.K ca Wx (sAsg g m)) := by
  refine PS.weak (ps_asg he hg hs hw h1) fun D σ H ⟨ρ, G, τ, r, s, h⟩ => ?_
  refine tE.seqFS r s h fun w G1 ρ1 H1 v x1 r1 s1 q1 h1 => ?_
  cases e : g w τ with
  | none => rw [e] at h1; exact h1.elim
  | some τ' => rw [e] at h1; exact ⟨ρ1, G1, τ, w, r1, s1, q1, τ', e, fun ρ' H' σ' x r s => h1 ρ' H' σ' x r s⟩
/-- a, b = e1, e2, two plain names -/
def sPar (i j : Nat) (m : M (List W)) : MS := fun τ G => (m τ G).toS τ fun ws G1 => match ws with
  | [w, u] => .nx ((τ.set i (some w)).set j (some u)) G1
  | _ => .bad
theorem tA.seqS {D : Ends} {σ : SSt} {ρ : List Addr} {G : GH} {τ : Sl} {H : Hp} {m : M (List W)} {k : List W → GH → RS} {Q : List V → Hp → Prop} (r : Rep X.K ca ρ G H) (s : RelS X.K ca ρ H σ τ) (h : PostS X.K ca Wx D ρ H ((m τ G).toS τ k))
    (hk : ∀ ws G1 ρ1 H1 vs, Ext ρ H ρ1 H1 → Rep X.K ca ρ1 G1 H1 → RelS X.K ca ρ1 H1 σ τ → RelWs X.K ca ρ1 H1 vs ws → PostS X.K ca Wx D ρ1 H1 (k ws G1) → Q vs H1) : tA X.K ca Wx m σ H Q :=
  ⟨ρ, G, τ, r, s, (PostS.of s r h).imp fun ws G1 ρ1 H1 x r1 q vs rv => hk ws G1 ρ1 H1 vs x r1 (s.ext r x) rv q⟩
theorem s_par {i j : Nat} {x y : Str} {a b : Expr} {ma : M (List W)} {px py pt : Pos} {kt k2 pt2} (hc : X.calm = true) (hN : X.N.Nodup) (hi : X.N[i]? = some x) (hj : X.N[j]? = some y) (hij : i ≠ j)
    (hx : X.env.scope.names.lookup x = some .local) (hy : X.env.scope.names.lookup y = some .local) (ha : PA X [a, b] (tA X.K ca Wx ma))
    (hw : swappedStores [.Tuple [.Name x px, .Name y py] kt pt] (.Tuple [a, b] k2 pt2) X.env = pure (some [x, y]))
    (hs : swapsWithSole [.Tuple [.Name x px, .Name y py] kt pt] (.Tuple [a, b] k2 pt2) pos.line X.env = pure false := by rfl) :
    PS X (.Assign [.Tuple [.Name x px, .Name y py] kt pt] (.Tuple [a, b] k2 pt2) pos) (tS X.K ca Wx (sPar i j ma)) := by
  refine PS.weak (ps_par hc hN hi hj hij hx hy ha hw hs) fun D σ H ⟨ρ, G, τ, r, s, h⟩ => ?_
  refine tA.seqS r s h fun ws G1 ρ1 H1 vs x1 r1 s1 q1 h1 => ?_
  split at h1
  · obtain ⟨v, u, rfl, qv, qu⟩ := relWs_two q1
    exact ⟨v, u, rfl, h1 ρ1 H1 _ .refl r1 ((s1.set i qv).set j qu)⟩
  · exact h1.elim
end

/-! list comprehensions whose turns raise nothing -/
def R.noEx {α : Type} : R α → R α
  | .ok a G => .ok a G
  | _ => .bad
@[simp] theorem R.noEx_ok {α : Type} (a : α) (G : GH) : (R.ok a G).noEx = .ok a G := (rfl)
def wipeS (τ : Sl) : List Nat → Sl
  | [] => τ
  | v :: vs => (wipeS τ vs).set v none
noncomputable def compF (src : Src) (g : MG) (c : M Bool) (e : M T) (τ : Sl) : List W → GH → R (List W)
  | [], G => if still src G then .ok [] G else .bad
  | w :: ws, G => if still src G then match g w τ with
      | none => .bad
      | some τ1 => ((c τ1 G).noEx).bind fun b G1 => if b then ((mF e τ1 G1).noEx).bind fun y G2 => (compF src g c e τ ws G2).bind fun ys G3 => .ok (y :: ys) G3
          else compF src g c e τ ws G1
    else .bad
noncomputable def mComp (mi : M (List W × Src)) (g : MG) (c : M Bool) (e : M T) (vs : List Nat) : M T := fun τ G => (mi τ G).bind fun p G1 =>
  if p.1.length ≤ 16777216 then (compF p.2 g c e (wipeS τ vs) p.1 G1).bind fun ys G2 => .ok (.tmp ys) G2 else .bad
def wF : WX := fun _ _ _ _ => False
def mYes : M Bool := fun _ G => .ok true G
section
variable {X : Cx} {ca : Nat → Addr} {Wx : WX} {pos : Pos}
theorem RelS.wipe {K : PySem.W.Frag} {ρ : List Addr} {H : Hp} {σ : SSt} {τ : Sl} (h : RelS K ca ρ H σ τ) : ∀ vs : List Nat, RelS K ca ρ H (L2.wipe σ vs) (wipeS τ vs)
  | [] => h
  | v :: vs => (RelS.wipe h vs).unset v
theorem Post.noEx {α : Type} {σ : SSt} {ρ : List Addr} {H : Hp} {P : α → GH → List Addr → Hp → Prop} {r : R α} (h : Post X.K ca Wx σ ρ H P r.noEx) : Post X.K ca wF σ ρ H P r := by
  cases r with
  | ok a G => exact h
  | ex c fs G => exact h.elim
  | bad => exact h
theorem Post.noExBind {α β : Type} {σ σ' : SSt} {ρ : List Addr} {H : Hp} {P : β → GH → List Addr → Hp → Prop} {r : R α} {k : α → GH → R β} (h : Post X.K ca Wx σ ρ H P (r.noEx.bind k)) :
    Post X.K ca wF σ' ρ H (fun a G1 ρ1 H1 => Post X.K ca Wx σ ρ1 H1 P (k a G1)) r := by
  cases r with
  | ok a G => exact fun ρ1 H1 x r1 => Post.later h x
  | ex c fs G => exact h.elim
  | bad => exact h
/-- the list in the making grows -/
theorem rep_app {K : PySem.W.Frag} {ρ : List Addr} {G : GH} {H : Hp} {D : Addr} {o : HO} (r : Rep K ca ρ G H) (hn : D ∉ ρ) (ht : ∀ u, H D = some u → isStat u = false) : Rep K ca ρ G (upd H D o) :=
  ⟨r.len, r.nd, fun n a u e1 e2 => objR_mono (r.obj n a u e1 e2) (fun _ _ h => h) (Stay.put ht) (upd_ne fun e => hn (e ▸ List.mem_of_getElem? e1))⟩
theorem tE.eqF {σ : SSt} {ρ : List Addr} {G G1 : GH} {τ : Sl} {H : Hp} {m : M T} {w : W} {Q : VK} (e : mF m τ G = .ok w G1) (r : Rep X.K ca ρ G H) (s : RelS X.K ca ρ H σ τ)
    (hk : ∀ ρ1 H1 v, Ext ρ H ρ1 H1 → Rep X.K ca ρ1 G1 H1 → RelS X.K ca ρ1 H1 σ τ → RelW X.K ca ρ1 H1 v w → Q v H1) : tE X.K ca Wx m σ H Q := by
  refine tE.seqF (k := fun y G2 => R.ok y G2) (P := fun y G2 _ _ => y = w ∧ G2 = G1) r s ?_ fun y G2 ρ1 H1 v x1 r1 s1 q1 h1 => ?_
  · show Post X.K ca Wx σ ρ H _ ((mF m τ G).bind fun y G2 => R.ok y G2)
    rw [e]
    exact fun _ _ _ _ => ⟨rfl, rfl⟩
  · obtain ⟨rfl, rfl⟩ := h1 ρ1 H1 .refl r1
    exact hk ρ1 H1 v x1 r1 s1 q1
theorem tT.eqB {σ : SSt} {ρ : List Addr} {G G1 : GH} {τ : Sl} {H : Hp} {m : M Bool} {b : Bool} {Q : Bool → Hp → Prop} (e : m τ G = .ok b G1) (r : Rep X.K ca ρ G H) (s : RelS X.K ca ρ H σ τ)
    (hk : ∀ ρ1 H1, Ext ρ H ρ1 H1 → Rep X.K ca ρ1 G1 H1 → RelS X.K ca ρ1 H1 σ τ → Q b H1) : tT X.K ca Wx m σ H Q := by
  refine ⟨ρ, G, τ, r, s, ?_⟩
  rw [e]
  exact fun ρ1 H1 x1 r1 => hk ρ1 H1 x1 r1 (s.ext r x1)
theorem comp_of {tgI : TI} {g : MG} {tt : TT} {te : TE} {vs : List Nat} {mi : M (List W × Src)} {mc : M Bool} {me : M T} {gg : TG}
    (hi : ∀ σ H R, tI X.K ca Wx mi σ H R → tgI σ H R) (hg : ∀ v σ H Q, tG X.K ca g v σ H Q → gg v σ H Q) (ht : ∀ σ H Q, tT X.K ca wF mc σ H Q → tt σ H Q) (he : ∀ σ H Q, tE X.K ca wF me σ H Q → te σ H Q)
    (hgw : ∀ v σ H (Q : SSt → Hp → Prop), gg v (L2.wipe σ vs) H Q → gg v (L2.wipe σ vs) H fun σ2 H2 => L2.wipe σ2 vs = L2.wipe σ vs ∧ Q σ2 H2)
    {σ : SSt} {H : Hp} {Q : VK} (h : tE X.K ca Wx (mComp mi g mc me vs) σ H Q) : tLc tgI gg tt te vs σ H Q := by
  obtain ⟨ρ, G, τ, r, s, h⟩ := h
  refine hi σ H _ ⟨ρ, G, τ, r, s, h.bind.imp fun p G1 ρ1 H1 x1 r1 h1 J hJ D hD => ?_⟩
  obtain ⟨its, src⟩ := p
  dsimp only at h1
  by_cases hz : its.length ≤ 16777216
  · rw [if_pos hz] at h1
    -- what holds between two turns
    generalize hP : (fun (t : T) (_ : GH) ρ2 H2 => ∀ v, RelT X.K ca H ρ2 H2 v t → Q v H2) = P at h1
    generalize hZ : (fun (i : Nat) (H' : Hp) => ∃ ρ' G' acc accW, Ext ρ1 H1 ρ' H' ∧ Rep X.K ca ρ' G' H' ∧ D ∉ ρ' ∧ H' D = some (.lst acc) ∧ RelWs X.K ca ρ' H' acc accW ∧ acc.length ≤ i ∧
      Post X.K ca Wx σ ρ1 H1 P ((compF src g mc me (wipeS τ vs) (its.drop i) G').bind fun ys G2 => .ok (.tmp (accW ++ ys)) G2)) = Z
    have mkZ : ∀ {i : Nat} {H' : Hp} {ρ' : List Addr} {G' : GH} {acc : List V} {accW : List W}, Ext ρ1 H1 ρ' H' → Rep X.K ca ρ' G' H' → D ∉ ρ' → H' D = some (.lst acc) → RelWs X.K ca ρ' H' acc accW → acc.length ≤ i →
        Post X.K ca Wx σ ρ1 H1 P ((compF src g mc me (wipeS τ vs) (its.drop i) G').bind fun ys G2 => .ok (.tmp (accW ++ ys)) G2) → Z i H' := by
      intro i H' ρ' G' acc accW a b c d e f g
      rw [← hZ]
      exact ⟨ρ', G', acc, accW, a, b, c, d, e, f, g⟩
    refine ⟨fun i m H' => m = its.length - i ∧ i ≤ its.length ∧ Z i H', ⟨its.length, rfl, Nat.zero_le _, mkZ (.laid hD) (r1.laid hD) (r1.fresh hD) upd_same .nil (Nat.le_refl _) ?_⟩, ?_⟩
    · exact h1
    · rintro i m H2 ⟨rfl, hi, hz2⟩
      rw [← hZ] at hz2
      obtain ⟨ρ2, G2, acc, accW, x2, r2, nD, eD, qD, lD, h2⟩ := hz2
      have s2 : RelS X.K ca ρ2 H2 σ τ := (s.ext r x1).ext r1 x2
      by_cases hlt : i < its.length
      · rw [List.drop_eq_getElem_cons hlt] at h2
        unfold compF at h2
        cases hs : still src G2 with
        | false => rw [hs] at h2; exact h2.elim
        | true =>
          rw [hs, if_pos rfl] at h2
          obtain ⟨hgo, _⟩ := hJ i ρ2 G2 H2 x2 r2 hs
          obtain ⟨go, yl⟩ := hgo its[i] (List.getElem?_eq_getElem hlt)
          refine .inr ⟨go, Z (i + 1), fun H' hw => ⟨its.length - (i + 1), by omega, rfl, hlt, hw⟩, fun y H3 hy => hgw _ _ _ _ ?_⟩
          obtain ⟨x3, r3, q3⟩ := yl y H3 hy
          cases e : g its[i] (wipeS τ vs) with
          | none => rw [e] at h2; exact h2.elim
          | some τ3 =>
            rw [e] at h2
            dsimp only at h2
            refine hg _ _ _ _ ⟨ρ2, G2, wipeS τ vs, its[i], r3, (s2.ext r2 x3).wipe vs, q3, τ3, e, fun ρ4 H4 σ4 x4 r4 s4 => ?_⟩
            have x24 := x3.trans x4
            cases ec : mc τ3 G2 with
            | ex _ _ _ => rw [ec] at h2; exact h2.elim
            | bad => rw [ec] at h2; exact h2.elim
            | ok b G5 =>
              rw [ec] at h2
              refine ht _ _ _ (tT.eqB ec r4 s4 fun ρ5 H5 x5 r5 s5 => ?_)
              have x25 := x24.trans x5
              have nD5 : D ∉ ρ5 := fun hm => (x25.new D hm).elim nD fun z => by rw [eD] at z; cases z
              have eD5 : H5 D = some (.lst acc) := x25.keep _ _ nD eD
              have q5 := relWs_ext qD r2 x25
              have x15 := x2.trans x25
              cases b with
              | false =>
                show Z (i + 1) H5
                exact mkZ x15 r5 nD5 eD5 q5 (by omega) h2
              | true =>
                show te σ4 H5 _
                cases em : mF me τ3 G5 with
                | ex _ _ _ =>
                  have h3 : Post X.K ca Wx σ ρ1 H1 P ((((mF me τ3 G5).noEx).bind fun y G2 => (compF src g mc me (wipeS τ vs) (its.drop (i + 1)) G2).bind fun ys G3 => .ok (y :: ys) G3).bind fun ys G2 => .ok (.tmp (accW ++ ys)) G2) := h2
                  rw [em] at h3; exact h3.elim
                | bad =>
                  have h3 : Post X.K ca Wx σ ρ1 H1 P ((((mF me τ3 G5).noEx).bind fun y G2 => (compF src g mc me (wipeS τ vs) (its.drop (i + 1)) G2).bind fun ys G3 => .ok (y :: ys) G3).bind fun ys G2 => .ok (.tmp (accW ++ ys)) G2) := h2
                  rw [em] at h3; exact h3.elim
                | ok w G6 =>
                  have h3 : Post X.K ca Wx σ ρ1 H1 P ((((mF me τ3 G5).noEx).bind fun y G2 => (compF src g mc me (wipeS τ vs) (its.drop (i + 1)) G2).bind fun ys G3 => .ok (y :: ys) G3).bind fun ys G2 => .ok (.tmp (accW ++ ys)) G2) := h2
                  rw [em] at h3
                  have h4 : Post X.K ca Wx σ ρ1 H1 P ((compF src g mc me (wipeS τ vs) (its.drop (i + 1)) G6).bind fun ys G2 => .ok (.tmp ((accW ++ [w]) ++ ys)) G2) := by
                    cases ef : compF src g mc me (wipeS τ vs) (its.drop (i + 1)) G6 with
                    | ok ys G7 =>
                      have h5 : Post X.K ca Wx σ ρ1 H1 P (((compF src g mc me (wipeS τ vs) (its.drop (i + 1)) G6).bind fun ys G3 => .ok (w :: ys) G3).bind fun ys G2 => .ok (.tmp (accW ++ ys)) G2) := h3
                      rw [ef] at h5
                      show Post X.K ca Wx σ ρ1 H1 P (.ok (.tmp ((accW ++ [w]) ++ ys)) G7)
                      rw [List.append_assoc]
                      exact h5
                    | ex _ _ _ =>
                      have h5 : Post X.K ca Wx σ ρ1 H1 P (((compF src g mc me (wipeS τ vs) (its.drop (i + 1)) G6).bind fun ys G3 => .ok (w :: ys) G3).bind fun ys G2 => .ok (.tmp (accW ++ ys)) G2) := h3
                      rw [ef] at h5
                      exact h5
                    | bad =>
                      have h5 : Post X.K ca Wx σ ρ1 H1 P (((compF src g mc me (wipeS τ vs) (its.drop (i + 1)) G6).bind fun ys G3 => .ok (w :: ys) G3).bind fun ys G2 => .ok (.tmp (accW ++ ys)) G2) := h3
                      rw [ef] at h5
                      exact h5
                  refine he _ _ _ (tE.eqF em r5 s5 fun ρ6 H6 v x6 r6 s6 q6 => ?_)
                  have nD6 : D ∉ ρ6 := fun hm => (x6.new D hm).elim nD5 fun z => by rw [eD5] at z; cases z
                  have eD6 : H6 D = some (.lst acc) := x6.keep _ _ nD5 eD5
                  have q7 := relWs_ext q5 r5 x6
                  have nt := ns_lst eD6
                  refine ⟨acc, eD6, by rw [sizeLine_eq]; omega, mkZ (acc := acc ++ [v]) (accW := accW ++ [w]) ?_ (rep_app r6 nD6 nt) nD6 upd_same ?_ (by rw [List.length_append, List.length_singleton]; omega) h4⟩
                  · have x16 := x15.trans x6
                    refine ⟨x16.pre, x16.new, fun b o hb e => ?_⟩
                    have nb : b ≠ D := fun z => by rw [z, hD] at e; cases e
                    rw [upd_ne nb]
                    exact x16.keep b o hb e
                  · exact relWs_app (paired_imp q7 fun _ _ z => z.mono (fun _ _ e => e) (Stay.put nt)) (.cons (q6.mono (fun _ _ e => e) (Stay.put nt)) .nil)
      · have e : i = its.length := by omega
        subst e
        rw [List.drop_length] at h2
        unfold compF at h2
        cases hs : still src G2 with
        | false => rw [hs] at h2; exact h2.elim
        | true =>
          rw [hs, if_pos rfl] at h2
          obtain ⟨_, hst⟩ := hJ its.length ρ2 G2 H2 x2 r2 hs
          refine .inl ⟨hst (Nat.le_refl _), ?_⟩
          have h3 := h2 ρ2 H2 x2 r2
          rw [← hP] at h3
          refine h3 (.ref D) ?_
          refine RelT.back (ρ := ρ1) (H := H1) ?_ x1 x2
          exact ⟨D, acc, rfl, nD, hD, eD, by rw [List.append_nil]; exact qD⟩
  · rw [if_neg hz] at h1
    exact h1.elim
end
end Sy
set_option Elab.async false
set_option linter.all false
set_option maxRecDepth 100000
set_option maxHeartbeats 4000000
namespace Sy
open PySem PySem.Spec PyProof.Rows L2

/-! a comprehension's own names -/
def Own (vs : List Nat) (gg : TG) : Prop := ∀ v σ H (Q : SSt → Hp → Prop), gg v σ H Q → gg v σ H fun σ2 H2 => L2.wipe σ2 vs = L2.wipe σ vs ∧ Q σ2 H2
def OwnS (vs : List Nat) (gg : TGs) : Prop := ∀ v σ H (Q : SSt → Hp → Prop), gg v σ H Q → gg v σ H fun σ2 H2 => L2.wipe σ2 vs = L2.wipe σ vs ∧ Q σ2 H2
theorem wipe_len (σ : SSt) (vs : List Nat) : (L2.wipe σ vs).length = σ.length := wipe_length σ vs
theorem wipe_set {i : Nat} {x : Option V} : ∀ {vs : List Nat} {σ : SSt}, i ∈ vs → L2.wipe (σ.set i x) vs = L2.wipe σ vs
  | v :: vs, σ, h => by
    show (L2.wipe (σ.set i x) vs).set v none = (L2.wipe σ vs).set v none
    by_cases hi : i ∈ vs
    · rw [wipe_set hi]
    · have e : i = v := by
        rcases List.mem_cons.mp h with e | e
        · exact e
        · exact absurd e hi
      subst e
      have aux : ∀ (us : List Nat) (σ : SSt), i ∉ us → L2.wipe (σ.set i x) us = (L2.wipe σ us).set i x := by
        intro us
        induction us with
        | nil => intro σ _; rfl
        | cons u us ih =>
          intro σ hu
          show (L2.wipe (σ.set i x) us).set u none = ((L2.wipe σ us).set u none).set i x
          rw [ih σ fun z => hu (List.mem_cons_of_mem _ z)]
          exact List.set_comm _ _ fun z => hu (by rw [z]; exact List.mem_cons_self)
      rw [aux vs σ hi, List.set_set]
theorem wipe_wipe {σ : SSt} {us : List Nat} : ∀ {vs : List Nat}, (∀ v ∈ vs, v ∈ us) → L2.wipe (L2.wipe σ vs) us = L2.wipe σ us
  | [], _ => rfl
  | v :: vs, h => by
    show L2.wipe ((L2.wipe σ vs).set v none) us = L2.wipe σ us
    rw [wipe_set (h v List.mem_cons_self), wipe_wipe fun u hu => h u (List.mem_cons_of_mem _ hu)]
theorem own_name {vs : List Nat} {i : Nat} (h : i ∈ vs) : Own vs (gName i) := fun v σ H Q q => ⟨wipe_set h, q⟩
theorem own_nil {vs : List Nat} : OwnS vs gNil := fun v σ H Q q => ⟨q.1, rfl, q.2⟩
theorem TG.mono_name {i : Nat} {v : V} {σ : SSt} {H : Hp} {Q Q' : SSt → Hp → Prop} (h : gName i v σ H Q) (f : ∀ σ H, Q σ H → Q' σ H) : gName i v σ H Q' := f _ _ h
theorem own_cons {vs : List Nat} {t : TG} {u : TGs} (h1 : Own vs t) (hm : ∀ v σ H (Q Q' : SSt → Hp → Prop), (∀ σ H, Q σ H → Q' σ H) → t v σ H Q → t v σ H Q') (hmu : ∀ v σ H (Q Q' : SSt → Hp → Prop), (∀ σ H, Q σ H → Q' σ H) → u v σ H Q → u v σ H Q') (h2 : OwnS vs u) : OwnS vs (gCons t u) := by
  rintro ws σ H Q ⟨v, r, e, q⟩
  refine ⟨v, r, e, hm _ _ _ _ _ (fun σ1 H1 h => ?_) (h1 v σ H _ q)⟩
  obtain ⟨e1, q1⟩ := h
  exact hmu _ _ _ _ _ (fun σ2 H2 h => ⟨h.1.trans e1, h.2⟩) (h2 r σ1 H1 Q q1)
theorem own_tup {K : PySem.W.Frag} {n : Nat} {vs : List Nat} {u : TGs} (h : OwnS vs u) : Own vs (gTup K n u) := by
  rintro v σ H Q ⟨a, xs, e, hs, hl, q⟩
  exact ⟨a, xs, e, hs, hl, h xs σ H Q q⟩
theorem mono_name {i : Nat} : ∀ v σ H (Q Q' : SSt → Hp → Prop), (∀ σ H, Q σ H → Q' σ H) → gName i v σ H Q → gName i v σ H Q' := fun _ _ _ _ _ f q => f _ _ q
theorem mono_nil : ∀ v σ H (Q Q' : SSt → Hp → Prop), (∀ σ H, Q σ H → Q' σ H) → gNil v σ H Q → gNil v σ H Q' := fun _ _ _ _ _ f q => ⟨q.1, f _ _ q.2⟩
theorem mono_cons {t : TG} {u : TGs} (hm : ∀ v σ H (Q Q' : SSt → Hp → Prop), (∀ σ H, Q σ H → Q' σ H) → t v σ H Q → t v σ H Q') (hmu : ∀ v σ H (Q Q' : SSt → Hp → Prop), (∀ σ H, Q σ H → Q' σ H) → u v σ H Q → u v σ H Q') :
    ∀ v σ H (Q Q' : SSt → Hp → Prop), (∀ σ H, Q σ H → Q' σ H) → gCons t u v σ H Q → gCons t u v σ H Q' := by
  rintro ws σ H Q Q' f ⟨v, r, e, q⟩
  exact ⟨v, r, e, hm _ _ _ _ _ (fun _ _ h => hmu _ _ _ _ _ f h) q⟩
section
variable {X : Cx} {ca : Nat → Addr} {Wx : WX} {pos : Pos}
def Tgt (K : PySem.W.Frag) (ca : Nat → Addr) (gg : TG) (g : MG) : Prop := ∀ v σ H Q, tG K ca g v σ H Q → gg v σ H Q
def TgtS (K : PySem.W.Frag) (ca : Nat → Addr) (gg : TGs) (g : List W → Sl → Option Sl) : Prop := ∀ v σ H Q, tGs K ca g v σ H Q → gg v σ H Q
theorem tgt_name {K : PySem.W.Frag} {i : Nat} : Tgt K ca (gName i) (gN i) := fun v σ H Q ⟨ρ, G, τ, w, r, s, q, τ', e, h⟩ => by
  cases e
  exact h ρ H _ .refl r (s.set i q)
theorem tgt_nil {K : PySem.W.Frag} : TgtS K ca gNil gE := fun vs σ H Q ⟨ρ, G, τ, ws, r, s, q, τ', e, h⟩ => by
  cases q with
  | nil => cases e; exact ⟨rfl, h ρ H σ .refl r s⟩
  | cons _ _ => cases e
theorem tgt_cons {K : PySem.W.Frag} {gg : TG} {g : MG} {ggs : TGs} {gs : List W → Sl → Option Sl} (h1 : Tgt K ca gg g) (h2 : TgtS K ca ggs gs) : TgtS K ca (gCons gg ggs) (gC g gs) := fun vs σ H Q ⟨ρ, G, τ, ws, r, s, q, τ', e, h⟩ => by
  cases ws with
  | nil => cases e
  | cons w ws =>
    have e : (g w τ).bind (gs ws) = some τ' := e
    cases vs with
    | nil => cases q
    | cons v vs =>
      have q0 : RelW K ca ρ H v w := by cases q; assumption
      have qt : RelWs K ca ρ H vs ws := by cases q; assumption
      cases e1 : g w τ with
      | none => rw [e1] at e; cases e
      | some τ1 =>
        rw [e1] at e
        refine ⟨v, vs, rfl, h1 _ _ _ _ ⟨ρ, G, τ, w, r, s, q0, τ1, e1, fun ρ1 H1 σ1 x1 r1 s1 => ?_⟩⟩
        exact h2 _ _ _ _ ⟨ρ1, G, τ1, ws, r1, s1, relWs_ext qt r x1, τ', e, fun ρ2 H2 σ2 x2 r2 s2 => h ρ2 H2 σ2 (x1.trans x2) r2 s2⟩
theorem tgt_tup {K : PySem.W.Frag} {n : Nat} {ggs : TGs} {gs : List W → Sl → Option Sl} (h : TgtS K ca ggs gs) (hl : ∀ ws τ τ', gs ws τ = some τ' → ws.length = n) : Tgt K ca (gTup K n ggs) (gT gs) := fun v σ H Q ⟨ρ, G, τ, w, r, s, q, τ', e, hq⟩ => by
  cases w with
  | tup ws =>
    obtain ⟨a, vs, rfl, hv, qs⟩ := relW_tup q
    exact ⟨a, vs, rfl, hv, qs.length.trans (hl ws τ τ' e), h _ _ _ _ ⟨ρ, G, τ, ws, r, s, qs, τ', e, hq⟩⟩
  | _ => cases e
theorem ts_nil : PTs X [] (tT X.K ca Wx mYes) := ⟨fun pins s σ H Q I ⟨ρ, G, τ, r, sl, h⟩ => pts_nil.run pins s σ H Q I (h ρ H .refl r)⟩
theorem ts_one {c : Expr} {m : M Bool} (h : PT X c (tT X.K ca Wx m)) : PTs X [c] (tT X.K ca Wx m) := pts_one h
/-- [elt for target in iter if ..] -/
theorem s_lc {elt tg iter : Expr} {ifs : List Expr} {scope : Scope} {own : List (Str × Nat)} {mi : M (List W × Src)} {gg : TG} {g : MG} {mc : M Bool} {me : M T} (hc : X.calm = true) (hN : X.N.Nodup) (hi : PI X tg iter (tI X.K ca Wx mi)) (ok : BlkOk X.N X.env.scope scope own)
    (hg : ∀ (s : Shared) (H : Hp) (C : Addr) (cl : List (Str × Addr)) (fp : List Addr), PG (X.blk s H scope (compEnvC scope cl C X.env) fp) tg gg) (hT : Tgt X.K ca gg g) (hO : Own (own.map (·.2)) gg)
    (ht : ∀ (s : Shared) (H : Hp) (C : Addr) (cl : List (Str × Addr)) (fp : List Addr), PTs (X.blk s H scope (compEnvC scope cl C X.env) fp) ifs (tT X.K ca wF mc))
    (he : ∀ (s : Shared) (H : Hp) (C : Addr) (cl : List (Str × Addr)) (fp : List Addr), PE (X.blk s H scope (compEnvC scope cl C X.env) fp) elt (tE X.K ca wF me)) (hs : ∀ x, foldedSetIterable iter X.env x = pure x := by intro _; rfl) :
    PE X (.ListComp elt [⟨tg, iter, ifs, 0⟩] scope pos) (tE X.K ca Wx (mComp mi g mc me (own.map (·.2)))) :=
  PE.weak (pe_lc hc hN hi ok hg ht he hs) fun σ H Q h => comp_of (fun _ _ _ h => h) hT (fun _ _ _ h => h) (fun _ _ _ h => h) (fun v σ H Q q => by
    have q' := hO v _ H Q q
    rwa [wipe_wipe fun v hv => hv] at q') h
theorem s_setLc {i : Nat} {y : Str} {py : Pos} {elt tg iter : Expr} {ifs : List Expr} {scope : Scope} {own : List (Str × Nat)} {spos : Pos} {mi : M (List W × Src)} {gg : TG} {g : MG} {mc : M Bool} {me : M T} (hc : X.calm = true) (hN : X.N.Nodup) (hy : X.N[i]? = some y) (hyl : X.env.scope.names.lookup y = some .local)
    (hsw : swapsWith (.ListComp elt [⟨tg, iter, ifs, 0⟩] scope pos) (some (.Name y py)) spos.line X.env = pure true) (hi : PI X tg iter (tI X.K ca Wx mi)) (ok : BlkOk X.N X.env.scope scope own)
    (hg : ∀ (s : Shared) (H : Hp) (C : Addr) (cl : List (Str × Addr)) (fp : List Addr), PG (X.blk s H scope (compEnvC scope cl C X.env) fp) tg gg) (hT : Tgt X.K ca gg g) (hO : Own (own.map (·.2)) gg)
    (ht : ∀ (s : Shared) (H : Hp) (C : Addr) (cl : List (Str × Addr)) (fp : List Addr), PTs (X.blk s H scope (compEnvC scope cl C X.env) fp) ifs (tT X.K ca wF mc))
    (he : ∀ (s : Shared) (H : Hp) (C : Addr) (cl : List (Str × Addr)) (fp : List Addr), PE (X.blk s H scope (compEnvC scope cl C X.env) fp) elt (tE X.K ca wF me)) (hs : ∀ x, foldedSetIterable iter X.env x = pure x := by intro _; rfl) :
    PS X (.Assign [.Name y py] (.ListComp elt [⟨tg, iter, ifs, 0⟩] scope pos) spos) (tS X.K ca Wx (sSet i (mComp mi g mc me (own.map (·.2))))) :=
  PS.weak (ps_setLc hc hN hy hyl hsw hi ok hg ht he hs) fun D σ H h => by
    have h' := set_of (X := X) h
    exact comp_of (fun _ _ _ h => h) hT (fun _ _ _ h => h) (fun _ _ _ h => h) (fun v σ H Q q => by
      have q' := hO v _ H Q q
      rwa [wipe_wipe fun v hv => hv] at q') h'
end

/-! defs -/
section
variable (K : PySem.W.Frag) (ca : Nat → Addr)
/-- what a def promises: it does what m does -/
def spM (n : Nat) (m : List W → GH → R W) : Sp := fun vs H Q E => vs.length = n ∧ ∃ ρ G ws, Rep K ca ρ G H ∧ RelWs K ca ρ H vs ws ∧ Post K ca (fun c d _ H => E c d H) [] ρ H (fun w _ ρ' H' => ∀ v, RelW K ca ρ' H' v w → Q v H') (m ws G)
end
def mDef (n : Nat) (mb : MS) : List W → GH → R W := fun ws G => match mb (ws.map some ++ List.replicate (n - ws.length) none) G with
  | .nx _ G' => .ok .non G'
  | .rt w G' => .ok w G'
  | .ex c fs _ G' => .ex c fs G'
  | _ => .bad
theorem relS_start {K : PySem.W.Frag} {ca : Nat → Addr} {ρ : List Addr} {H : Hp} {N : List Str} {vs : List V} {ws : List W} (q : RelWs K ca ρ H vs ws) : RelS K ca ρ H (L2.start N vs) (ws.map some ++ List.replicate (N.length - ws.length) none) := by
  have hl := q.length
  unfold L2.start
  refine ⟨by simp [hl], fun i w e => ?_⟩
  by_cases hi : i < ws.length
  · rw [List.getElem?_append_left (by simpa using hi), List.getElem?_map] at e
    cases e0 : ws[i]? with
    | none => rw [e0] at e; cases e
    | some u =>
      rw [e0] at e
      cases e
      obtain ⟨v, e1, q1⟩ := relWs_get q e0
      exact ⟨v, by rw [List.getElem?_append_left (by simp; omega), List.getElem?_map, e1]; rfl, q1⟩
  · rw [List.getElem?_append_right (by simpa using hi), List.getElem?_replicate] at e
    split at e <;> cases e
section
variable {P : Program} {w : World} {K : PySem.W.Frag} {mg : Str → Option Value} {base : Heap} {ca : Nat → Addr}
/-- a def of the module that does what m does; dws: the values of defaults that a call leaves out -/
structure Callable (P : Program) (w : World) (K : PySem.W.Frag) (mg : Str → Option Value) (base : Heap) (ca : Nat → Addr) (k : Nat) (x : Str) (ps : List Str) (dws : List W) (m : List W → GH → R W) : Prop where
  ex : ∃ (f : Addr) (fd : FuncData) (dvs : List V) (ds : List Value), mg x = some (.ref f) ∧ PySem.W.keepIn K (.ref f) = true ∧ Binds K fd ps ds ∧ Vals dvs ds ∧ (∀ ρ H, RelWs K ca ρ H dvs dws) ∧ FnOk P w K mg base (L2N.CX P w) k f fd ps (spM K ca ps.length m)
theorem Callable.mono {k k' : Nat} {x : Str} {ps : List Str} {dws : List W} {m : List W → GH → R W} (C : Callable P w K mg base ca k x ps dws m) (h : k ≤ k') : Callable P w K mg base ca k' x ps dws m := by
  obtain ⟨f, fd, dvs, ds, a, b, c, d, e, g⟩ := C.ex
  exact ⟨f, fd, dvs, ds, a, b, c, d, e, g.mono h⟩
end
def mCall (m : List W → GH → R W) (dws : List W) (ma : M (List W)) : M T := fun τ G => (ma τ G).bind fun ws G1 => (m (ws ++ dws) G1).bind fun w G2 => .ok (.val w) G2
section
variable {X : Cx} {ca : Nat → Addr} {Wx : WX} {pos : Pos}
theorem call_in {n : Nat} {m : List W → GH → R W} {dws : List W} {dvs : List V} {ma : M (List W)} {σ : SSt} {H : Hp} {Q : VK} (hd : ∀ ρ H, RelWs X.K ca ρ H dvs dws) (hn : ∀ ws τ G G1, ma τ G = .ok ws G1 → (ws ++ dws).length = n)
    (h : tE X.K ca Wx (mCall m dws ma) σ H Q) : tA X.K ca Wx ma σ H fun vs H1 => spM X.K ca n m (vs ++ dvs) H1 Q (WE Wx σ) := by
  obtain ⟨ρ, G, τ, r, s, h⟩ := h
  refine ⟨ρ, G, τ, r, s, ?_⟩
  cases e : ma τ G with
  | ok ws G1 =>
    have h' : Post X.K ca Wx σ ρ H (fun t _ ρ' H' => ∀ v, RelT X.K ca H ρ' H' v t → Q v H') ((m (ws ++ dws) G1).bind fun w G2 => .ok (.val w) G2) := by
      unfold mCall at h
      rw [e] at h
      exact h
    intro ρ1 H1 x1 r1 vs qs
    have qs2 := relWs_app qs (hd ρ1 H1)
    refine ⟨qs2.length.trans (hn ws τ G G1 e), ρ1, G1, ws ++ dws, r1, qs2, ?_⟩
    have h2 := Post.later h' x1
    cases em : m (ws ++ dws) G1 with
    | ok w G2 => rw [em] at h2; exact fun ρ2 H2 x2 r2 v q => h2 ρ2 H2 x2 r2 v q
    | ex c fs G2 => rw [em] at h2; exact h2
    | bad => rw [em] at h2; exact h2
  | ex c fs G1 => unfold mCall at h; rw [e] at h; exact h
  | bad => unfold mCall at h; rw [e] at h; exact h
theorem s_call {x : Str} {p : Pos} {k : Nat} {ps : List Str} {dws : List W} {m : List W → GH → R W} {e : Expr} {es : List Expr} {ma : M (List W)} (C : Callable X.prog X.w X.K X.mg X.base ca k x ps dws m) (hr : Room k X.A) (hg : Gl X x) (tk : L2N.Takes X Wx)
    (ha : PA X (e :: es) (tA X.K ca Wx ma)) (hn : ∀ ws τ G G1, ma τ G = .ok ws G1 → (ws ++ dws).length = ps.length) (hdb : (x == ("__debug__" : Str)) = false := by decide)
    (he : starEach (e :: es) X.env = (false, eval e X.env) :: starEach es X.env := by rfl) (hpl : (backTo pos (starEach es X.env)).any (·.1) = false := by rfl) :
    PE X (.Call (.Name x p) (e :: es) [] pos) (tE X.K ca Wx (mCall m dws ma)) := by
  obtain ⟨f, fd, dvs, ds, gm, kp, b, hv, hd, F⟩ := C.ex
  exact PE.weak (pe_callSD F hr hg gm kp b hv (fun σ => L2N.passAt tk σ) ha hdb he hpl) fun σ H Q h => call_in hd hn h
theorem len_nil : ∀ ws τ G G1, mNil τ G = .ok ws G1 → ws.length = 0 := fun ws τ G G1 e => by cases e; rfl
theorem len_cons {m : M T} {ms : M (List W)} {n : Nat} (h : ∀ ws τ G G1, ms τ G = .ok ws G1 → ws.length = n) : ∀ ws τ G G1, mCons m ms τ G = .ok ws G1 → ws.length = n + 1 := fun ws τ G G1 e => by
  unfold mCons at e
  cases e1 : (m τ G).bind force with
  | ok w G2 =>
    rw [e1] at e
    cases e2 : ms τ G2 with
    | ok us G3 =>
      have e' : ((ms τ G2).bind fun ws G2 => R.ok (w :: ws) G2) = R.ok ws G1 := e
      rw [e2] at e'
      cases e'
      rw [List.length_cons, h us τ G2 _ e2]
    | ex _ _ _ =>
      have e' : ((ms τ G2).bind fun ws G2 => R.ok (w :: ws) G2) = R.ok ws G1 := e
      rw [e2] at e'; cases e'
    | bad =>
      have e' : ((ms τ G2).bind fun ws G2 => R.ok (w :: ws) G2) = R.ok ws G1 := e
      rw [e2] at e'; cases e'
  | ex _ _ _ => rw [e1] at e; cases e
  | bad => rw [e1] at e; cases e
theorem len_dws {ma : M (List W)} {dws : List W} {n k : Nat} (h : ∀ ws τ G G1, ma τ G = .ok ws G1 → ws.length = n) (hk : n + dws.length = k) : ∀ ws τ G G1, ma τ G = .ok ws G1 → (ws ++ dws).length = k := fun ws τ G G1 e => by
  rw [List.length_append, h ws τ G G1 e, hk]

/-! built-ins -/
def SaysC (X : Cx) (ca : Nat → Addr) (r : List V → Hp → VK → Prop) (f : List T → GH → R T) : Prop :=
  ∀ (Wx : WX) (σ : SSt) (ρ : List Addr) (G : GH) (H H0 : Hp) (xs : List V) (ts : List T) (Q : VK), Rep X.K ca ρ G H → RelTs X.K ca H0 ρ H xs ts →
    Post X.K ca Wx σ ρ H (fun t _ ρ' H' => ∀ v, RelT X.K ca H ρ' H' v t → Q v H') (f ts G) → r xs H Q
def mBi (f : List T → GH → R T) (ma : M (List T)) : M T := fun τ G => (ma τ G).bind f
theorem bi_in {r : List V → Hp → VK → Prop} {f : List T → GH → R T} (hs : SaysC X ca r f) {ma : M (List T)} {σ : SSt} {H : Hp} {Q : VK} (h : tE X.K ca Wx (mBi f ma) σ H Q) : tCB r (tB X.K ca Wx ma) σ H Q := by
  obtain ⟨ρ, G, τ, r0, s0, h⟩ := h
  refine tB.seq r0 s0 h fun ts G1 ρ1 H1 vs x1 r1 s1 q1 h1 => ?_
  exact hs Wx σ ρ1 G1 H1 H vs ts Q r1 q1 (h1.imp fun t G' ρ' H' x' _ q v rv => q v (rv.back x1 x'))
theorem s_bi {x : Str} {id : String} {p : Pos} {r : List V → Hp → VK → Prop} {f : List T → GH → R T} {e : Expr} {es : List Expr} {ma : M (List T)} (hc : CallR X (.builtin id) r) (hs : SaysC X ca r f) (hg : Gl X x) (hm : X.mg x = none) (hv : bootBuiltins x = some (.builtin id)) (ha : PA X (e :: es) (tB X.K ca Wx ma))
    (hn : x ≠ "__name__" := by decide) (hdb : (x == ("__debug__" : Str)) = false := by decide) (he : starEach (e :: es) X.env = (false, eval e X.env) :: starEach es X.env := by rfl) (hpl : (backTo pos (starEach es X.env)).any (·.1) = false := by rfl) :
    PE X (.Call (.Name x p) (e :: es) [] pos) (tE X.K ca Wx (mBi f ma)) := PE.weak (pe_callB hc hg hm hv ha hn hdb he hpl) fun _ _ _ h => bi_in hs h
theorem s_bty {x : Str} {id : String} {p : Pos} {r : List V → Hp → VK → Prop} {f : List T → GH → R T} {e : Expr} {es : List Expr} {ma : M (List T)} (hc : CallR X (.type id) r) (hs : SaysC X ca r f) (hg : Gl X x) (hm : X.mg x = none) (hv : bootBuiltins x = some (.type id)) (ha : PA X (e :: es) (tB X.K ca Wx ma))
    (hn : x ≠ "__name__" := by decide) (hdb : (x == ("__debug__" : Str)) = false := by decide) (he : starEach (e :: es) X.env = (false, eval e X.env) :: starEach es X.env := by rfl) (hpl : (backTo pos (starEach es X.env)).any (·.1) = false := by rfl) :
    PE X (.Call (.Name x p) (e :: es) [] pos) (tE X.K ca Wx (mBi f ma)) := PE.weak (pe_callTy hc hg hm hv ha hn hdb he hpl) fun _ _ _ h => bi_in hs h
end
end Sy
set_option Elab.async false
set_option linter.all false
set_option maxRecDepth 100000
set_option maxHeartbeats 4000000
namespace Sy
open PySem PySem.Spec PyProof.Rows L2

section
variable {X : Cx} {ca : Nat → Addr} {Wx : WX} {pos : Pos}
/-! len -/
def fLen (ts : List T) (G : GH) : R T := match ts with
  | [.val (.str x)] => if x.length ≤ 16777216 then .ok (.val (.int x.length)) G else .bad
  | [.val (.tup ws)] => .ok (.val (.int ws.length)) G
  | [t] => match rdl t G with
    | some ws => .ok (.val (.int ws.length)) G
    | none => .bad
  | _ => .bad
theorem says_len : SaysC X ca (fun xs H Q => ∃ x n, xs = [x] ∧ LenV X.K x H n ∧ Q (.int n) H) fLen := by
  intro Wx σ ρ G H H0 xs ts Q r q h
  unfold fLen at h
  split at h
  · obtain ⟨v, rfl, qv⟩ := relTs_one q
    cases qv
    split at h
    · rename_i z
      exact ⟨_, _, rfl, ⟨by rw [sizeLine_eq]; exact z, rfl⟩, h ρ H .refl r _ (.int _)⟩
    · exact h.elim
  · obtain ⟨v, rfl, qv⟩ := relTs_one q
    obtain ⟨a, vs, rfl, hv, qs⟩ := relW_tup qv
    exact ⟨_, _, rfl, .inr ⟨vs, hv, rfl⟩, h ρ H .refl r _ (by rw [qs.length]; exact .int _)⟩
  · rename_i t _ _
    obtain ⟨v, rfl, qv⟩ := relTs_one q
    cases e : rdl t G with
    | none => rw [e] at h; exact h.elim
    | some ws =>
      rw [e] at h
      obtain ⟨a, vs, rfl, hv, qs⟩ := rdl_of r qv e
      exact ⟨_, _, rfl, .inl ⟨vs, hv, rfl⟩, h ρ H .refl r _ (by rw [qs.length]; exact .int _)⟩
  · exact h.elim
/-! all, any, sum -/
def blsW : List W → Option (List Bool)
  | [] => some []
  | w :: ws => match w with
    | .bl b => (blsW ws).map (b :: ·)
    | _ => none
def intsW : List W → Option (List Int)
  | [] => some []
  | w :: ws => match w with
    | .int b => (intsW ws).map (b :: ·)
    | _ => none
theorem blsW_of {K : PySem.W.Frag} {ρ : List Addr} {H : Hp} : ∀ {vs : List V} {ws : List W} {bs : List Bool}, RelWs K ca ρ H vs ws → blsW ws = some bs → vs = bs.map V.bl
  | _, [], _, .nil, e => by cases e; rfl
  | _, w :: ws, bs, .cons q t, e => by
    unfold blsW at e
    cases w with
    | bl b =>
      cases e2 : blsW ws with
      | none => dsimp only at e; rw [e2] at e; cases e
      | some cs =>
        dsimp only at e
        rw [e2] at e
        cases e
        cases q
        rw [blsW_of t e2]
        rfl
    | _ => cases e
theorem intsW_of {K : PySem.W.Frag} {ρ : List Addr} {H : Hp} : ∀ {vs : List V} {ws : List W} {bs : List Int}, RelWs K ca ρ H vs ws → intsW ws = some bs → vs = bs.map V.int
  | _, [], _, .nil, e => by cases e; rfl
  | _, w :: ws, bs, .cons q t, e => by
    unfold intsW at e
    cases w with
    | int b =>
      cases e2 : intsW ws with
      | none => dsimp only at e; rw [e2] at e; cases e
      | some cs =>
        dsimp only at e
        rw [e2] at e
        cases e
        cases q
        rw [intsW_of t e2]
        rfl
    | _ => cases e
def fAll (ts : List T) (G : GH) : R T := match ts with
  | [t] => match (rdl t G).bind blsW with
    | some bs => .ok (.val (.bl (bs.all id))) G
    | none => .bad
  | _ => .bad
def fAny (ts : List T) (G : GH) : R T := match ts with
  | [t] => match (rdl t G).bind blsW with
    | some bs => .ok (.val (.bl (bs.any id))) G
    | none => .bad
  | _ => .bad
def fSum (ts : List T) (G : GH) : R T := match ts with
  | [t] => match (rdl t G).bind intsW with
    | some bs => .ok (.val (.int bs.sum)) G
    | none => .bad
  | _ => .bad
theorem says_all : SaysC X ca (rAll X.K) fAll := by
  intro Wx σ ρ G H H0 xs ts Q r q h
  unfold fAll at h
  split at h
  · rename_i t
    obtain ⟨v, rfl, qv⟩ := relTs_one q
    cases e : rdl t G with
    | none => rw [e] at h; exact h.elim
    | some ws =>
      cases e2 : blsW ws with
      | none => rw [e, Option.bind_some, e2] at h; exact h.elim
      | some bs =>
        rw [e, Option.bind_some, e2] at h
        obtain ⟨a, vs, rfl, hv, qs⟩ := rdl_of r qv e
        exact ⟨a, bs, rfl, by rw [← blsW_of qs e2]; exact hv, h ρ H .refl r _ (.bl _)⟩
  · exact h.elim
theorem says_any : SaysC X ca (rAny X.K) fAny := by
  intro Wx σ ρ G H H0 xs ts Q r q h
  unfold fAny at h
  split at h
  · rename_i t
    obtain ⟨v, rfl, qv⟩ := relTs_one q
    cases e : rdl t G with
    | none => rw [e] at h; exact h.elim
    | some ws =>
      cases e2 : blsW ws with
      | none => rw [e, Option.bind_some, e2] at h; exact h.elim
      | some bs =>
        rw [e, Option.bind_some, e2] at h
        obtain ⟨a, vs, rfl, hv, qs⟩ := rdl_of r qv e
        exact ⟨a, bs, rfl, by rw [← blsW_of qs e2]; exact hv, h ρ H .refl r _ (.bl _)⟩
  · exact h.elim
theorem says_sum : SaysC X ca (rSum X.K) fSum := by
  intro Wx σ ρ G H H0 xs ts Q r q h
  unfold fSum at h
  split at h
  · rename_i t
    obtain ⟨v, rfl, qv⟩ := relTs_one q
    cases e : rdl t G with
    | none => rw [e] at h; exact h.elim
    | some ws =>
      cases e2 : intsW ws with
      | none => rw [e, Option.bind_some, e2] at h; exact h.elim
      | some bs =>
        rw [e, Option.bind_some, e2] at h
        obtain ⟨a, vs, rfl, hv, qs⟩ := rdl_of r qv e
        exact ⟨a, bs, rfl, by rw [← intsW_of qs e2]; exact hv, h ρ H .refl r _ (.int _)⟩
  · exact h.elim
/-! int, list, tuple, divmod -/
def fInt (ts : List T) (G : GH) : R T := match ts with
  | [.val (.int i)] => .ok (.val (.int i)) G
  | [.val (.bl b)] => .ok (.val (.int (if b then 1 else 0))) G
  | _ => .bad
theorem says_int : SaysC X ca (fun xs H Q => (∃ i, xs = [.int i] ∧ Q (.int i) H) ∨ ∃ k, xs = [.bl k] ∧ Q (.int (if k then 1 else 0)) H) fInt := by
  intro Wx σ ρ G H H0 xs ts Q r q h
  unfold fInt at h
  split at h
  · obtain ⟨v, rfl, qv⟩ := relTs_one q
    cases qv
    exact .inl ⟨_, rfl, h ρ H .refl r _ (.int _)⟩
  · obtain ⟨v, rfl, qv⟩ := relTs_one q
    cases qv
    exact .inr ⟨_, rfl, h ρ H .refl r _ (.int _)⟩
  · exact h.elim
def fList (ts : List T) (G : GH) : R T := match ts with
  | [.val (.tup ws)] => .ok (.tmp ws) G
  | [t] => match rdl t G with
    | some ws => .ok (.tmp ws) G
    | none => .bad
  | _ => .bad
theorem says_list : SaysC X ca (fun xs H Q => ∃ p ys, xs = [.ref p] ∧ (SqL X.K H p ys ∨ SqT X.K H p ys) ∧ ∀ l, H l = none → Q (.ref l) (upd H l (.lst ys))) fList := by
  intro Wx σ ρ G H H0 xs ts Q r q h
  unfold fList at h
  split at h
  · obtain ⟨v, rfl, qv⟩ := relTs_one q
    obtain ⟨a, vs, rfl, hv, qs⟩ := relW_tup qv
    exact ⟨a, vs, rfl, .inr hv, fun l hl => h ρ _ (.laid hl) (r.laid hl) _ (fresh_tmp r hl qs)⟩
  · rename_i t _
    obtain ⟨v, rfl, qv⟩ := relTs_one q
    cases e : rdl t G with
    | none => rw [e] at h; exact h.elim
    | some ws =>
      rw [e] at h
      obtain ⟨a, vs, rfl, hv, qs⟩ := rdl_of r qv e
      exact ⟨a, vs, rfl, .inl hv, fun l hl => h ρ _ (.laid hl) (r.laid hl) _ (fresh_tmp r hl qs)⟩
  · exact h.elim
def fTuple (ts : List T) (G : GH) : R T := match ts with
  | [.val (.tup ws)] => .ok (.val (.tup ws)) G
  | [t] => match rdl t G with
    | some ws => .ok (.val (.tup ws)) G
    | none => .bad
  | _ => .bad
theorem says_tuple : SaysC X ca (fun xs H Q => ∃ p ys, xs = [.ref p] ∧ ((SqL X.K H p ys ∧ ∀ l, H l = none → Q (.ref l) (upd H l (.tup ys))) ∨ (SqT X.K H p ys ∧ Q (.ref p) H))) fTuple := by
  intro Wx σ ρ G H H0 xs ts Q r q h
  unfold fTuple at h
  split at h
  · obtain ⟨v, rfl, qv⟩ := relTs_one q
    have qv' : RelW X.K ca ρ H v _ := qv
    obtain ⟨a, vs, rfl, hv, qs⟩ := relW_tup qv'
    exact ⟨a, vs, rfl, .inr ⟨hv, h ρ H .refl r _ qv'⟩⟩
  · rename_i t _
    obtain ⟨v, rfl, qv⟩ := relTs_one q
    cases e : rdl t G with
    | none => rw [e] at h; exact h.elim
    | some ws =>
      rw [e] at h
      obtain ⟨a, vs, rfl, hv, qs⟩ := rdl_of r qv e
      exact ⟨a, vs, rfl, .inl ⟨hv, fun l hl => h ρ _ (.laid hl) (r.laid hl) _ (RelW.tup' (.of upd_same) (relWs_ext qs r (.laid hl)))⟩⟩
  · exact h.elim
def fDivmod (ts : List T) (G : GH) : R T := match ts with
  | [.val (.int i), .val (.int j)] => if decide (0 < j) && decide (j < 1073741824) then .ok (.val (.tup [.int (i / j), .int (i % j)])) G else .bad
  | _ => .bad
theorem says_divmod : SaysC X ca (fun xs H Q => ∃ i j, xs = [.int i, .int j] ∧ CDiv i j ∧ ∀ p, H p = none → Q (.ref p) (upd H p (.tup [.int (i / j), .int (i % j)]))) fDivmod := by
  intro Wx σ ρ G H H0 xs ts Q r q h
  unfold fDivmod at h
  split at h
  · split at h
    · rename_i z
      obtain ⟨v, u, rfl, qv, qu⟩ := relTs_two q
      cases qv; cases qu
      rw [Bool.and_eq_true] at z
      exact ⟨_, _, rfl, ⟨of_decide_eq_true z.1, of_decide_eq_true z.2⟩, fun l hl => h ρ _ (.laid hl) (r.laid hl) _ (RelW.tup' (.of upd_same) (.cons (.int _) (.cons (.int _) .nil)))⟩
    · exact h.elim
  · exact h.elim
/-! isinstance against built-in types -/
def tyOf (G : GH) : T → Option String
  | .tmp _ => some "list"
  | .val w => match w with
    | .non => some "NoneType"
    | .bl _ => some "bool"
    | .int _ => some "int"
    | .str _ => some "str"
    | .tup _ => some "tuple"
    | .loc n => match G[n]? with
      | some (.lst _) => some "list"
      | some (.dK _) => some "dict"
      | some (.dT _) => some "dict"
      | _ => none
    | .frl _ => some "list"
    | .ty _ => none
    | .cls _ => none
    | .exn _ _ => none
def subTy (a b : String) : Option Bool :=
  if b = "int" then some (a == "int" || a == "bool") else if b = "bool" then some (a == "bool") else if b = "str" then some (a == "str")
  else if b = "list" then some (a == "list") else if b = "tuple" then some (a == "tuple") else if b = "dict" then some (a == "dict") else none
theorem subTy_ok {K : PySem.W.Frag} {a b : String} {r : Bool} (ha : a = "list" ∨ a = "NoneType" ∨ a = "bool" ∨ a = "int" ∨ a = "str" ∨ a = "tuple" ∨ a = "dict") (h : subTy a b = some r) : PySem.W.kitOne K (.type a) (.type b) = some r := by
  apply kit_ty
  unfold subTy at h
  split at h
  · rename_i e; subst e; rcases ha with rfl | rfl | rfl | rfl | rfl | rfl | rfl <;> (cases h; decide +kernel)
  · split at h
    · rename_i e; subst e; rcases ha with rfl | rfl | rfl | rfl | rfl | rfl | rfl <;> (cases h; decide +kernel)
    · split at h
      · rename_i e; subst e; rcases ha with rfl | rfl | rfl | rfl | rfl | rfl | rfl <;> (cases h; decide +kernel)
      · split at h
        · rename_i e; subst e; rcases ha with rfl | rfl | rfl | rfl | rfl | rfl | rfl <;> (cases h; decide +kernel)
        · split at h
          · rename_i e; subst e; rcases ha with rfl | rfl | rfl | rfl | rfl | rfl | rfl <;> (cases h; decide +kernel)
          · split at h
            · rename_i e; subst e; rcases ha with rfl | rfl | rfl | rfl | rfl | rfl | rfl <;> (cases h; decide +kernel)
            · cases h
theorem sqT_ty {K : PySem.W.Frag} {H : Hp} {a : Addr} {vs : List V} (h : SqT K H a vs) : TyX K H (.ref a) (.type "tuple") := by
  rcases h with h | ⟨o, its, n, hk, hc, _⟩
  · rcases h with h | ⟨o, h⟩
    · exact .base (.tup h)
    · exact .fTuple h
  · exact .kTuple hk hc
theorem tyOf_ok {K : PySem.W.Frag} {ρ : List Addr} {G : GH} {H H0 : Hp} {v : V} {t : T} {a : String} (r : Rep K ca ρ G H) (q : RelT K ca H0 ρ H v t) (h : tyOf G t = some a) :
    TyX K H v (.type a) ∧ (a = "list" ∨ a = "NoneType" ∨ a = "bool" ∨ a = "int" ∨ a = "str" ∨ a = "tuple" ∨ a = "dict") := by
  cases t with
  | tmp ws =>
    cases h
    obtain ⟨p, vs, rfl, _, _, hp, _⟩ := q
    exact ⟨.base (.lst hp), .inl rfl⟩
  | val w =>
    cases w with
    | non => cases h; cases q; exact ⟨.base .non, by simp⟩
    | bl b => cases h; cases q; exact ⟨.base (.bl b), by simp⟩
    | int b => cases h; cases q; exact ⟨.base (.int b), by simp⟩
    | str b => cases h; cases q; exact ⟨.base (.str b), by simp⟩
    | tup ws =>
      cases h
      obtain ⟨a, vs, rfl, hv, _⟩ := relW_tup q
      exact ⟨sqT_ty hv, by simp⟩
    | loc n =>
      cases q with
      | loc hn =>
        obtain ⟨o, e, ho⟩ := r.at hn
        unfold tyOf at h
        dsimp only at h
        rw [e] at h
        cases o with
        | lst ws => cases h; obtain ⟨vs, e, _⟩ := ho; exact ⟨.base (.lst e), by simp⟩
        | dK ws => cases h; obtain ⟨vs, e, _⟩ := ho; exact ⟨.base (.dK e), by simp⟩
        | dT ws => cases h; obtain ⟨vs, e, _⟩ := ho; exact ⟨.base (.dT e), by simp⟩
        | ins c fs => cases h
    | frl ws =>
      cases h
      obtain ⟨a, vs, rfl, hv, _⟩ := relW_frl q
      refine ⟨?_, by simp⟩
      rcases hv with ⟨o, hv⟩ | ⟨o, its, n, hk, hc, _⟩
      · exact .base (.frz hv)
      · exact .kList hk hc
    | ty n => cases h
    | cls n => cases h
    | exn n a => cases h
def fIsi (ts : List T) (G : GH) : R T := match ts with
  | [t, .val (.ty b)] => match (tyOf G t).bind fun a => subTy a b with
    | some r => .ok (.val (.bl r)) G
    | none => .bad
  | _ => .bad
theorem says_isi : SaysC X ca (rIsi X.K) fIsi := by
  intro Wx σ ρ G H H0 xs ts Q r q h
  unfold fIsi at h
  split at h
  · rename_i t b
    obtain ⟨v, u, rfl, qv, qu⟩ := relTs_two q
    cases qu
    cases e : tyOf G t with
    | none => rw [e] at h; exact h.elim
    | some a =>
      cases e2 : subTy a b with
      | none => rw [e, Option.bind_some, e2] at h; exact h.elim
      | some c =>
        rw [e, Option.bind_some, e2] at h
        obtain ⟨h1, h2⟩ := tyOf_ok r qv e
        exact ⟨v, .ty b, .type a, .type b, c, rfl, .ty b, h1, subTy_ok h2 e2, h ρ H .refl r _ (.bl _)⟩
  · exact h.elim
/-- a built-in class as a value -/
theorem s_ty {x : Str} {n : String} (hg : Gl X x) (hm : X.mg x = none) (hv : bootBuiltins x = some (.type n)) (hn : x ≠ "__name__" := by decide) (hd : (x == ("__debug__" : Str)) = false := by decide) : PE X (.Name x pos) (tE X.K ca Wx (mC (.ty n))) :=
  s_const (pe_bltn (v := .ty n) hg hm hv rfl hn hd) fun _ _ => .ty n

/-! in, not in -/
def strIn (i j : Str) : Bool := !(Builtin.Str.occurrences j i 0 j.length 1).isEmpty
def vOf : W → Option V
  | .non => some .non | .bl b => some (.bl b) | .int i => some (.int i) | .str x => some (.str x) | _ => none
def inB (x y : T) (G : GH) : Option Bool := match y with
  | .val (.str j) => match x with
    | .val (.str i) => some (strIn i j)
    | _ => none
  | .val (.tup ws) => match x with
    | .val w => (vOf w).bind fun v => (mapO vOf ws).bind fun vs => some (inV v vs)
    | _ => none
  | y => match toDT G x, toDT G y with
    | some d, some (.list ds) => some (ds.any fun z => PyData.eqv z d)
    | _, _ => none
def fIn (x y : T) (G : GH) : R T := match inB x y G with
  | some b => .ok (.val (.bl b)) G
  | none => .bad
def fNotIn (x y : T) (G : GH) : R T := match inB x y G with
  | some b => .ok (.val (.bl (!b))) G
  | none => .bad
def rInA (K : PySem.W.Frag) : R2 := fun x y H Q => rInD K x y H Q ∨ rIn K false x y H Q ∨ (∃ i j, x = .str i ∧ y = .str j ∧ Q (.bl (!(Builtin.Str.occurrences j i 0 j.length 1).isEmpty)) H)
def rNotInA (K : PySem.W.Frag) : R2 := fun x y H Q => rNotInD K x y H Q ∨ rIn K true x y H Q ∨ (∃ i j, x = .str i ∧ y = .str j ∧ Q (.bl (!(!(Builtin.Str.occurrences j i 0 j.length 1).isEmpty))) H)
theorem op_inA (hu : X.A.units + 65 < cLine) : OpR X (compareOp .In) (rInA X.K) := (op_inD hu).or (op_in_seq.or op_in_str)
theorem op_notInA (hu : X.A.units + 65 < cLine) : OpR X (compareOp .NotIn) (rNotInA X.K) := (op_notInD hu).or (op_notIn_seq.or op_notin_str)
theorem vOf_ok {K : PySem.W.Frag} {ρ : List Addr} {H : Hp} {v v' : V} {w : W} (q : RelW K ca ρ H v w) (h : vOf w = some v') : v = v' ∧ flatV v' = true := by
  cases w with
  | non => cases q; cases h; exact ⟨rfl, rfl⟩
  | bl b => cases q; cases h; exact ⟨rfl, rfl⟩
  | int b => cases q; cases h; exact ⟨rfl, rfl⟩
  | str x => cases q; cases h; exact ⟨rfl, rfl⟩
  | _ => cases h
theorem vOfs_ok {K : PySem.W.Frag} {ρ : List Addr} {H : Hp} : ∀ {vs vs' : List V} {ws : List W}, RelWs K ca ρ H vs ws → mapO vOf ws = some vs' → vs = vs' ∧ vs'.all flatV = true
  | _, _, [], .nil, h => by cases h; exact ⟨rfl, rfl⟩
  | _, vs', w :: ws, .cons q t, h => by
    unfold mapO at h
    cases e1 : vOf w with
    | none => rw [e1] at h; cases h
    | some v =>
      cases e2 : mapO vOf ws with
      | none => rw [e1, e2] at h; cases h
      | some us =>
        rw [e1, e2] at h; cases h
        obtain ⟨rfl, f1⟩ := vOf_ok q e1
        obtain ⟨rfl, f2⟩ := vOfs_ok t e2
        exact ⟨rfl, by rw [List.all_cons, f1, f2]; rfl⟩
theorem in_ok {K : PySem.W.Frag} {ρ : List Addr} {G : GH} {H H0 : Hp} {x y : V} {s t : T} {b : Bool} (r : Rep K ca ρ G H) (qx : RelT K ca H0 ρ H x s) (qy : RelT K ca H0 ρ H y t) (e : inB s t G = some b) :
    (∃ d ds, Dp K H x d ∧ Dp K H y (.list ds) ∧ SeqAt.shaped d = true ∧ SeqAt.shaped (.list ds) = true ∧ b = ds.any fun z => PyData.eqv z d) ∨ (∃ i j, x = .str i ∧ y = .str j ∧ b = strIn i j) ∨
      ∃ p xs, y = .ref p ∧ (SqL K H p xs ∨ SqT K H p xs) ∧ flatV x = true ∧ xs.all flatV = true ∧ b = inV x xs := by
  unfold inB at e
  split at e
  · split at e
    · cases qx; cases qy; cases e
      exact .inr (.inl ⟨_, _, rfl, rfl, rfl⟩)
    · cases e
  · rename_i ws
    split at e
    · rename_i w
      cases e1 : vOf w with
      | none => rw [e1] at e; cases e
      | some v =>
        cases e2 : mapO vOf ws with
        | none => rw [e1, e2] at e; cases e
        | some us =>
          rw [e1, e2] at e; cases e
          obtain ⟨a, vs, rfl, hv, qs⟩ := relW_tup qy
          obtain ⟨rfl, f1⟩ := vOf_ok qx e1
          obtain ⟨rfl, f2⟩ := vOfs_ok qs e2
          exact .inr (.inr ⟨a, vs, rfl, .inr hv, f1, f2, rfl⟩)
    · cases e
  · split at e
    · rename_i d ds e1 e2
      cases e
      obtain ⟨a1, a2⟩ := toDT_dp r qx e1
      obtain ⟨b1, b2⟩ := toDT_dp r qy e2
      exact .inl ⟨d, ds, a1, b1, a2, b2, rfl⟩
    · cases e
theorem says_isin : Says2 X ca (rInA X.K) fIn := by
  intro Wx σ ρ G H H0 x y s t Q r qx qy hp
  unfold fIn at hp
  cases e : inB s t G with
  | none => rw [e] at hp; exact hp.elim
  | some b =>
    rw [e] at hp
    have q := hp ρ H .refl r _ (.bl b)
    rcases in_ok r qx qy e with ⟨d, ds, a, b', c, d', rfl⟩ | ⟨i, j, rfl, rfl, rfl⟩ | ⟨p, xs, rfl, hq, f1, f2, rfl⟩
    · exact .inl ⟨d, ds, a, b', c, d', q⟩
    · exact .inr (.inr ⟨i, j, rfl, rfl, q⟩)
    · exact .inr (.inl ⟨p, xs, rfl, hq, f1, f2, q⟩)
theorem says_notIn : Says2 X ca (rNotInA X.K) fNotIn := by
  intro Wx σ ρ G H H0 x y s t Q r qx qy hp
  unfold fNotIn at hp
  cases e : inB s t G with
  | none => rw [e] at hp; exact hp.elim
  | some b =>
    rw [e] at hp
    have q := hp ρ H .refl r _ (.bl (!b))
    rcases in_ok r qx qy e with ⟨d, ds, a, b', c, d', rfl⟩ | ⟨i, j, rfl, rfl, rfl⟩ | ⟨p, xs, rfl, hq, f1, f2, rfl⟩
    · exact .inl ⟨d, ds, a, b', c, d', q⟩
    · exact .inr (.inr ⟨i, j, rfl, rfl, q⟩)
    · exact .inr (.inl ⟨p, xs, rfl, hq, f1, f2, q⟩)

/-! subscripts -/
def fIx (x y : T) (G : GH) : R T := match y with
  | .val (.int i) => match x with
    | .val (.str z) => if z.length ≤ 16777216 then match atI z.cps.toList i with
        | some c => .ok (.val (.str ⟨#[c]⟩)) G
        | none => .bad
      else .bad
    | .val (.tup ws) => match atI ws i with
      | some w => .ok (.val w) G
      | none => .bad
    | t => match (rdl t G).bind fun ws => atI ws i with
      | some w => .ok (.val w) G
      | none => .bad
  | _ => .bad
theorem relWs_atI {K : PySem.W.Frag} {ρ : List Addr} {H : Hp} {vs : List V} {ws : List W} {i : Int} {w : W} (q : RelWs K ca ρ H vs ws) (e : atI ws i = some w) : ∃ v, atI vs i = some v ∧ RelW K ca ρ H v w := by
  unfold atI at e ⊢
  rw [q.length]
  cases e1 : ixN ws.length i with
  | none => rw [e1] at e; cases e
  | some j =>
    rw [e1] at e
    exact relWs_get q e
theorem says_ix : Says2 X ca (rIx X.K) fIx := by
  intro Wx σ ρ G H H0 x y s t Q r qx qy hp
  unfold fIx at hp
  split at hp
  · rename_i i
    cases qy
    split at hp
    · rename_i z
      cases qx
      split at hp
      · rename_i hz
        cases e : atI z.cps.toList i with
        | none => rw [e] at hp; exact hp.elim
        | some c =>
          rw [e] at hp
          exact .inr (.inr ⟨z, i, c, rfl, rfl, by rw [sizeLine_eq]; exact hz, e, hp ρ H .refl r _ (.str _)⟩)
      · exact hp.elim
    · rename_i ws
      obtain ⟨a, vs, rfl, hv, qs⟩ := relW_tup qx
      cases e : atI ws i with
      | none => rw [e] at hp; exact hp.elim
      | some w =>
        rw [e] at hp
        obtain ⟨v, e2, q2⟩ := relWs_atI qs e
        exact .inr (.inl ⟨a, vs, i, v, rfl, rfl, hv, e2, hp ρ H .refl r v q2⟩)
    · cases e : rdl s G with
      | none => rw [e] at hp; exact hp.elim
      | some ws =>
        rw [e, Option.bind_some] at hp
        cases e1 : atI ws i with
        | none => rw [e1] at hp; exact hp.elim
        | some w =>
          rw [e1] at hp
          obtain ⟨a, vs, rfl, hv, qs⟩ := rdl_of r qx e
          obtain ⟨v, e2, q2⟩ := relWs_atI qs e1
          exact .inl ⟨a, vs, i, v, rfl, rfl, hv, e2, hp ρ H .refl r v q2⟩
  · exact hp.elim
theorem s_ix {a b : Expr} {ma mb : M T} (ha : PE X a (tE X.K ca Wx ma)) (hb : PE X b (tE X.K ca Wx mb)) (hs : PlainIx b := by exact fun _ _ => rfl) : PE X (.Subscript a b pos) (tE X.K ca Wx (mBin fIx ma mb)) :=
  PE.weak (pe_ix ix_seq ha hb hs) fun _ _ _ h => Sy.says_in (f := fIx) says_ix h
end
end Sy
set_option Elab.async false
set_option linter.all false
set_option maxRecDepth 100000
set_option maxHeartbeats 4000000
namespace Sy
open PySem PySem.Spec PyProof.Rows L2

section
variable {K : PySem.W.Frag} {ca : Nat → Addr} {ρ : List Addr} {G : GH} {H : Hp}
/-- a list is changed -/
theorem Rep.put (r : Rep K ca ρ G H) {n : Nat} {a : Addr} {us vs : List V} {ws : List W} (hn : ρ[n]? = some a) (ha : H a = some (.lst us)) (q : RelWs K ca ρ H vs ws) : Rep K ca ρ (G.set n (.lst ws)) (upd H a (.lst vs)) := by
  have nt := ns_lst ha
  refine ⟨by rw [List.length_set]; exact r.len, r.nd, fun m b o e1 e2 => ?_⟩
  by_cases hm : n = m
  · subst hm
    rw [hn] at e1
    cases e1
    rw [List.getElem?_set_self (by rw [← r.len]; exact (List.getElem?_eq_some_iff.mp hn).1)] at e2
    cases e2
    exact ⟨vs, upd_same, paired_imp q fun _ _ z => z.mono (fun _ _ h => h) (Stay.put nt)⟩
  · rw [List.getElem?_set_ne hm] at e2
    refine objR_mono (r.obj m b o e1 e2) (fun _ _ h => h) (Stay.put nt) (upd_ne fun e => hm ?_)
    subst e
    exact (nodup_at r.nd hn e1)
where
  nodup_at {ρ : List Addr} (h : ρ.Nodup) {i j : Nat} {a : Addr} (e1 : ρ[i]? = some a) (e2 : ρ[j]? = some a) : i = j := by
    obtain ⟨h1, e1⟩ := List.getElem?_eq_some_iff.mp e1
    obtain ⟨h2, e2⟩ := List.getElem?_eq_some_iff.mp e2
    exact (List.getElem_inj h).mp (e1.trans e2.symm)
theorem Ext.put {n : Nat} {a : Addr} {o : HO} (hn : ρ[n]? = some a) : Ext ρ H ρ (upd H a o) :=
  ⟨fun _ _ h => h, fun _ h => .inl h, fun b u hb e => by
    have nb : b ≠ a := fun z => by subst z; exact hb (List.mem_of_getElem? hn)
    rw [upd_ne nb]; exact e⟩
end

section
variable {X : Cx} {ca : Nat → Addr} {Wx : WX} {pos : Pos}
/-! methods of lists -/
def SaysM (X : Cx) (ca : Nat → Addr) (r : V → List V → Hp → VK → Prop) (f : T → List T → GH → R T) : Prop :=
  ∀ (Wx : WX) (σ : SSt) (ρ : List Addr) (G : GH) (H H0 : Hp) (x : V) (t : T) (xs : List V) (ts : List T) (Q : VK), Rep X.K ca ρ G H → RelT X.K ca H0 ρ H x t → RelTs X.K ca H0 ρ H xs ts →
    Post X.K ca Wx σ ρ H (fun t _ ρ' H' => ∀ v, RelT X.K ca H ρ' H' v t → Q v H') (f t ts G) → r x xs H Q
def isLst (t : T) (G : GH) : Bool := (rdl t G).isSome
def isStr : T → GH → Bool
  | .val (.str _), _ => true
  | _, _ => false
def mMt (ty : T → GH → Bool) (f : T → List T → GH → R T) (mo : M T) (ma : M (List T)) : M T := fun τ G => (mo τ G).bind fun x G1 => if ty x G1 then (ma τ G1).bind fun ts G2 => f x ts G2 else .bad
def TyOk (X : Cx) (ca : Nat → Addr) (ty : T → GH → Bool) (n : String) : Prop := ∀ (ρ : List Addr) (G : GH) (H H0 : Hp) (x : V) (t : T), Rep X.K ca ρ G H → RelT X.K ca H0 ρ H x t → ty t G = true → tyV X.K n x H
theorem ty_list : TyOk X ca isLst "list" := by
  intro ρ G H H0 x t r q h
  unfold isLst at h
  cases e : rdl t G with
  | none => rw [e] at h; cases h
  | some ws =>
    obtain ⟨a, vs, rfl, hv, _⟩ := rdl_of r q e
    exact .inl ⟨rfl, vs, hv⟩
theorem ty_str : TyOk X ca isStr "str" := by
  intro ρ G H H0 x t r q h
  unfold isStr at h
  split at h
  · cases q; exact rfl
  · cases h
theorem mt_in {r : V → List V → Hp → VK → Prop} {f : T → List T → GH → R T} {ty : T → GH → Bool} {n : String} (hs : SaysM X ca r f) (ht : TyOk X ca ty n) {mo : M T} {ma : M (List T)} {σ : SSt} {H : Hp} {Q : VK} (h : tE X.K ca Wx (mMt ty f mo ma) σ H Q) :
    tBM X.K n r (tE X.K ca Wx mo) (tB X.K ca Wx ma) σ H Q := by
  obtain ⟨ρ, G, τ, r0, s0, h⟩ := h
  refine tE.seq r0 s0 h fun t G1 ρ1 H1 v x1 r1 s1 q1 h1 => ?_
  cases e : ty t G1 with
  | false => rw [e] at h1; exact h1.elim
  | true =>
    rw [e, if_pos rfl] at h1
    refine ⟨ht ρ1 G1 H1 H v t r1 q1 e, tB.seq r1 s1 h1 fun ts G2 ρ2 H2 vs x2 r2 s2 q2 h2 => ?_⟩
    exact hs Wx σ ρ2 G2 H2 H v t vs ts Q r2 (q1.ext r1 x2) (paired_imp q2 fun _ _ z => z.back x1 x2) (h2.imp fun t G' ρ' H' x' _ q v rv => q v (rv.back (x1.trans x2) x'))
theorem mt_in0 {r : V → List V → Hp → VK → Prop} {f : T → List T → GH → R T} {ty : T → GH → Bool} {n : String} (hs : SaysM X ca r f) (ht : TyOk X ca ty n) {mo : M T} {σ : SSt} {H : Hp} {Q : VK} (h : tE X.K ca Wx (mMt ty f mo mNilT) σ H Q) :
    tBM0 X.K n r (tE X.K ca Wx mo) σ H Q := by
  obtain ⟨ρ, G, τ, r0, s0, h⟩ := h
  refine tE.seq r0 s0 h fun t G1 ρ1 H1 v x1 r1 s1 q1 h1 => ?_
  cases e : ty t G1 with
  | false => rw [e] at h1; exact h1.elim
  | true =>
    rw [e, if_pos rfl] at h1
    exact ⟨ht ρ1 G1 H1 H v t r1 q1 e, hs Wx σ ρ1 G1 H1 H v t [] [] Q r1 q1 .nil (h1.imp fun t G' ρ' H' x' _ q v rv => q v (rv.back x1 x'))⟩
variable {o e : Expr} {es : List Expr} {name : Str} {apos cpos : Pos} {n id : String} {r : V → List V → Hp → VK → Prop} {f : T → List T → GH → R T} {ty : T → GH → Bool} {mo : M T} {ma : M (List T)}
theorem s_mt (pa : PlainAttrs n) (slot : Slot n name id) (hty : typeOf (.builtin id) = pure (.type "method_descriptor")) (hm : MtR X id r) (hs : SaysM X ca r f) (ht : TyOk X ca ty n) (ho : PE X o (tE X.K ca Wx mo)) (ha : PA X (e :: es) (tB X.K ca Wx ma))
    (hbase : attributeBase o name X.env (eval o X.env) = eval o X.env := by rfl)
    (hfew : ((backTo cpos (starEach (e :: es) X.env)).all (fun x => !x.1) && (backToKw cpos (keywordEach [] X.env)).all (fun x => x.1.isSome)
      && decide ((e :: es).length + ([] : List Keyword).length + (if ([] : List Keyword).isEmpty then 0 else 1) < 30)) = true := by rfl)
    (hline : (apos.endLine == cpos.line) = true := by rfl) (hst : starEach (e :: es) X.env = (false, eval e X.env) :: starEach es X.env := by rfl) (hplain : (backTo cpos (starEach es X.env)).any (·.1) = false := by rfl) :
    PE X (.Call (.Attribute o name apos) (e :: es) [] cpos) (tE X.K ca Wx (mMt ty f mo ma)) := PE.weak (pe_bm pa slot hty hm ho ha hbase hfew hline hst hplain) fun _ _ _ h => mt_in hs ht h
theorem s_mt0 (pa : PlainAttrs n) (slot : Slot n name id) (hty : typeOf (.builtin id) = pure (.type "method_descriptor")) (hm : MtR X id r) (hs : SaysM X ca r f) (ht : TyOk X ca ty n) (ho : PE X o (tE X.K ca Wx mo))
    (hbase : attributeBase o name X.env (eval o X.env) = eval o X.env := by rfl) (hline : (apos.endLine == cpos.line) = true := by rfl) : PE X (.Call (.Attribute o name apos) [] [] cpos) (tE X.K ca Wx (mMt ty f mo mNilT)) :=
  PE.weak (pe_bm0 pa slot hty hm ho hbase hline) fun _ _ _ h => mt_in0 hs ht h

/-- the list at a place, to be changed -/
def lstAt (t : T) (G : GH) : Option (Nat × List W) := match t with
  | .val (.loc n) => (G[n]?.bind GO.wr).map fun ws => (n, ws)
  | _ => none
theorem lstAt_of {K : PySem.W.Frag} {ρ : List Addr} {G : GH} {H H0 : Hp} {v : V} {t : T} {n : Nat} {ws : List W} (r : Rep K ca ρ G H) (q : RelT K ca H0 ρ H v t) (h : lstAt t G = some (n, ws)) :
    ∃ a vs, v = .ref a ∧ ρ[n]? = some a ∧ H a = some (.lst vs) ∧ RelWs K ca ρ H vs ws := by
  cases t with
  | tmp us => cases h
  | val w =>
    cases w with
    | loc m =>
      cases q with
      | loc hn =>
        obtain ⟨o, e, ho⟩ := r.at hn
        have h : (G[m]?.bind GO.wr).map (fun ws => (m, ws)) = some (n, ws) := h
        rw [e] at h
        cases o with
        | lst us => cases h; obtain ⟨vs, e, q⟩ := ho; exact ⟨_, vs, rfl, hn, e, q⟩
        | _ => cases h
    | _ => cases h
/-! .. whose arguments are kept -/
def SaysMF (X : Cx) (ca : Nat → Addr) (r : V → List V → Hp → VK → Prop) (f : T → List W → GH → R T) : Prop :=
  ∀ (Wx : WX) (σ : SSt) (ρ : List Addr) (G : GH) (H H0 : Hp) (x : V) (t : T) (xs : List V) (ts : List W) (Q : VK), Rep X.K ca ρ G H → RelT X.K ca H0 ρ H x t → RelWs X.K ca ρ H xs ts →
    Post X.K ca Wx σ ρ H (fun t _ ρ' H' => ∀ v, RelT X.K ca H ρ' H' v t → Q v H') (f t ts G) → r x xs H Q
def mMtF (ty : T → GH → Bool) (f : T → List W → GH → R T) (mo : M T) (ma : M (List W)) : M T := fun τ G => (mo τ G).bind fun x G1 => if ty x G1 then (ma τ G1).bind fun ts G2 => f x ts G2 else .bad
theorem mtF_in {r : V → List V → Hp → VK → Prop} {f : T → List W → GH → R T} {ty : T → GH → Bool} {n : String} (hs : SaysMF X ca r f) (ht : TyOk X ca ty n) {mo : M T} {ma : M (List W)} {σ : SSt} {H : Hp} {Q : VK} (h : tE X.K ca Wx (mMtF ty f mo ma) σ H Q) :
    tBM X.K n r (tE X.K ca Wx mo) (tA X.K ca Wx ma) σ H Q := by
  obtain ⟨ρ, G, τ, r0, s0, h⟩ := h
  refine tE.seq r0 s0 h fun t G1 ρ1 H1 v x1 r1 s1 q1 h1 => ?_
  cases e : ty t G1 with
  | false => rw [e] at h1; exact h1.elim
  | true =>
    rw [e, if_pos rfl] at h1
    refine ⟨ht ρ1 G1 H1 H v t r1 q1 e, tA.seq r1 s1 h1 fun ts G2 ρ2 H2 vs x2 r2 s2 q2 h2 => ?_⟩
    exact hs Wx σ ρ2 G2 H2 H v t vs ts Q r2 (q1.ext r1 x2) q2 (h2.imp fun t G' ρ' H' x' _ q v rv => q v (rv.back (x1.trans x2) x'))
theorem s_mtF {f : T → List W → GH → R T} {ma : M (List W)} (pa : PlainAttrs n) (slot : Slot n name id) (hty : typeOf (.builtin id) = pure (.type "method_descriptor")) (hm : MtR X id r) (hs : SaysMF X ca r f) (ht : TyOk X ca ty n) (ho : PE X o (tE X.K ca Wx mo)) (ha : PA X (e :: es) (tA X.K ca Wx ma))
    (hbase : attributeBase o name X.env (eval o X.env) = eval o X.env := by rfl)
    (hfew : ((backTo cpos (starEach (e :: es) X.env)).all (fun x => !x.1) && (backToKw cpos (keywordEach [] X.env)).all (fun x => x.1.isSome)
      && decide ((e :: es).length + ([] : List Keyword).length + (if ([] : List Keyword).isEmpty then 0 else 1) < 30)) = true := by rfl)
    (hline : (apos.endLine == cpos.line) = true := by rfl) (hst : starEach (e :: es) X.env = (false, eval e X.env) :: starEach es X.env := by rfl) (hplain : (backTo cpos (starEach es X.env)).any (·.1) = false := by rfl) :
    PE X (.Call (.Attribute o name apos) (e :: es) [] cpos) (tE X.K ca Wx (mMtF ty f mo ma)) := PE.weak (pe_bm pa slot hty hm ho ha hbase hfew hline hst hplain) fun _ _ _ h => mtF_in hs ht h
/-- xs.append(y) -/
def fApp (t : T) (ws : List W) (G : GH) : R T := match ws with
  | [w] => match lstAt t G with
    | some (n, us) => if us.length < 16777216 then .ok (.val .non) (G.set n (.lst (us ++ [w]))) else .bad
    | none => .bad
  | _ => .bad
theorem says_app : SaysMF X ca rAppend fApp := by
  intro Wx σ ρ G H H0 x t xs ts Q r qx qs h
  unfold fApp at h
  split at h
  · rename_i w
    obtain ⟨v, rfl, qv⟩ := relWs_one qs
    split at h
    · rename_i m us e
      split at h
      · rename_i hz
        obtain ⟨a, vs, rfl, hn, ha, qa⟩ := lstAt_of r qx e
        refine ⟨a, vs, v, rfl, rfl, ha, by rw [sizeLine_eq, qa.length]; exact hz, ?_⟩
        exact h ρ _ (.put hn) (r.put hn ha (relWs_app qa (.cons qv .nil))) _ .non
      · exact h.elim
    · exact h.elim
  · exact h.elim
/-- xs.pop() -/
def fPop (t : T) (ts : List T) (G : GH) : R T := match ts with
  | [] => match lstAt t G with
    | some (n, us) => match us[us.length - 1]? with
      | some w => .ok (.val w) (G.set n (.lst us.dropLast))
      | none => .bad
    | none => .bad
  | _ => .bad
theorem relWs_dropLast {K : PySem.W.Frag} {ρ : List Addr} {H : Hp} {vs : List V} {ws : List W} (q : RelWs K ca ρ H vs ws) : RelWs K ca ρ H vs.dropLast ws.dropLast :=
  relWs_of (by rw [List.length_dropLast, List.length_dropLast, q.length]) fun i v w e1 e2 => by
    rw [List.getElem?_dropLast] at e1 e2
    split at e1
    · split at e2
      · exact paired_get q i v w e1 e2
      · cases e2
    · cases e1
theorem says_pop : SaysM X ca rPop fPop := by
  intro Wx σ ρ G H H0 x t xs ts Q r qx qs h
  unfold fPop at h
  split at h
  · cases qs
    split at h
    · rename_i m us e
      split at h
      · rename_i w e2
        obtain ⟨a, vs, rfl, hn, ha, qa⟩ := lstAt_of r qx e
        obtain ⟨v, e3, qv⟩ := relWs_get qa e2
        refine ⟨a, vs, v, rfl, rfl, ha, by rw [qa.length]; exact e3, ?_⟩
        exact h ρ _ (.put hn) (r.put hn ha (relWs_dropLast qa)) _ (qv.mono (fun _ _ h => h) (Stay.put (ns_lst ha)))
      · exact h.elim
    · exact h.elim
  · exact h.elim
/-- xs.extend(ys) -/
def fExt (t : T) (ts : List T) (G : GH) : R T := match ts with
  | [u] => match lstAt t G, wrl u G with
    | some (n, us), some ws => if us.length + ws.length ≤ 16777216 then .ok (.val .non) (G.set n (.lst (us ++ ws))) else .bad
    | _, _ => .bad
  | _ => .bad
theorem says_ext : SaysM X ca rExtend fExt := by
  intro Wx σ ρ G H H0 x t xs ts Q r qx qs h
  unfold fExt at h
  split at h
  · obtain ⟨v, rfl, qv⟩ := relTs_one qs
    split at h
    · rename_i m us ws e e2
      split at h
      · rename_i hz
        obtain ⟨a, vs, rfl, hn, ha, qa⟩ := lstAt_of r qx e
        obtain ⟨b, vs2, rfl, hb, qb⟩ := wrl_of r qv e2
        refine ⟨a, b, vs, vs2, rfl, rfl, ha, hb, by rw [sizeLine_eq, qa.length, qb.length]; exact hz, ?_⟩
        exact h ρ _ (.put hn) (r.put hn ha (relWs_app qa qb)) _ .non
      · exact h.elim
    · exact h.elim
  · exact h.elim
def fClr (t : T) (ts : List T) (G : GH) : R T := match ts with
  | [] => match lstAt t G with
    | some (n, _) => .ok (.val .non) (G.set n (.lst []))
    | none => .bad
  | _ => .bad
theorem says_clr : SaysM X ca rClear fClr := by
  intro Wx σ ρ G H H0 x t xs ts Q r qx qs h
  unfold fClr at h
  split at h
  · cases qs
    split at h
    · rename_i m us e
      obtain ⟨a, vs, rfl, hn, ha, qa⟩ := lstAt_of r qx e
      exact ⟨a, vs, rfl, rfl, ha, h ρ _ (.put hn) (r.put hn ha .nil) _ .non⟩
    · exact h.elim
  · exact h.elim
def fRev (t : T) (ts : List T) (G : GH) : R T := match ts with
  | [] => match lstAt t G with
    | some (n, us) => .ok (.val .non) (G.set n (.lst us.reverse))
    | none => .bad
  | _ => .bad
theorem relWs_rev {K : PySem.W.Frag} {ρ : List Addr} {H : Hp} {vs : List V} {ws : List W} (q : RelWs K ca ρ H vs ws) : RelWs K ca ρ H vs.reverse ws.reverse :=
  relWs_of (by rw [List.length_reverse, List.length_reverse, q.length]) fun i v w e1 e2 => by
    have h1 : i < vs.length := by simpa using (List.getElem?_eq_some_iff.mp e1).1
    rw [List.getElem?_reverse h1] at e1
    rw [List.getElem?_reverse (by rw [← q.length]; exact h1), ← q.length] at e2
    exact paired_get q _ v w e1 e2
theorem says_rev : SaysM X ca rReverse fRev := by
  intro Wx σ ρ G H H0 x t xs ts Q r qx qs h
  unfold fRev at h
  split at h
  · cases qs
    split at h
    · rename_i m us e
      obtain ⟨a, vs, rfl, hn, ha, qa⟩ := lstAt_of r qx e
      exact ⟨a, vs, rfl, rfl, ha, h ρ _ (.put hn) (r.put hn ha (relWs_rev qa)) _ .non⟩
    · exact h.elim
  · exact h.elim
/-! xs[i] = e -/
def sPut (mo mi : M T) (m : M T) : MS := fun τ G => (mF m τ G).toS τ fun w G1 => (mo τ G1).toS τ fun t G2 => (mi τ G2).toS τ fun i G3 => match i, lstAt t G3 with
  | .val (.int k), some (n, us) => match ixN us.length k with
    | some j => .nx τ (G3.set n (.lst (us.set j w)))
    | none => .bad
  | _, _ => .bad
theorem relWs_set {K : PySem.W.Frag} {ρ : List Addr} {H : Hp} {v : V} {w : W} (qv : RelW K ca ρ H v w) : ∀ {vs : List V} {ws : List W} (j : Nat), RelWs K ca ρ H vs ws → RelWs K ca ρ H (vs.set j v) (ws.set j w)
  | _, _, _, .nil => .nil
  | _, _, 0, .cons _ t => .cons qv t
  | _, _, j + 1, .cons q t => .cons q (relWs_set qv j t)
theorem s_put {o i e : Expr} {mo mi m : M T} {spos tpos : Pos} (ho : PE X o (tE X.K ca Wx mo)) (hi : PE X i (tE X.K ca Wx mi)) (he : PE X e (tE X.K ca Wx m))
    (ha : ∀ v, assign (.Subscript o i tpos) X.env v = (do
      let ov ← holding [v] (eval o X.env)
      let iv ← holding [v, ov] (eval i X.env)
      standAt tpos
      holding [v, ov, iv] (setItem ov iv v)
      release [v, ov, iv] []) := by intro _; rfl)
    (hs : swapsWithSole [.Subscript o i tpos] e spos.line X.env = pure false := by rfl) (hw : swappedStores [.Subscript o i tpos] e X.env = pure none := by rfl)
    (h1 : (assignEach [.Subscript o i tpos] X.env).map (·.2) = [assign (.Subscript o i tpos) X.env] := by rfl) :
    PS X (.Assign [.Subscript o i tpos] e spos) (tS X.K ca Wx (sPut mo mi m)) := by
  refine PS.weak (ps_asg he (pg_sub ho hi set_list ha) hs hw h1) fun D σ H ⟨ρ, G, τ, r, s, h⟩ => ?_
  refine tE.seqFS r s h fun w G1 ρ1 H1 v x1 r1 s1 q1 h1 => ?_
  refine tE.seqS r1 s1 h1 fun t G2 ρ2 H2 vo x2 r2 s2 q2 h2 => ?_
  refine tE.seqS r2 s2 h2 fun u G3 ρ3 H3 vi x3 r3 s3 q3 h3 => ?_
  split at h3
  · rename_i k n us e
    split at h3
    · rename_i j ej
      cases q3
      obtain ⟨a, vs, rfl, hn, hl, qa⟩ := lstAt_of r3 (q2.ext r2 x3) e
      have qv := (q1.ext r1 x2).ext r2 x3
      refine ⟨a, vs, k, j, rfl, rfl, hl, by rw [qa.length]; exact ej, ?_⟩
      exact h3 ρ3 _ σ (.put hn) (r3.put hn hl (relWs_set qv j qa)) (s3.ext r3 (.put hn))
    · exact h3.elim
  · exact h3.elim
end
end Sy
set_option Elab.async false
set_option linter.all false
set_option maxRecDepth 100000
set_option maxHeartbeats 4000000
namespace Sy
open PySem PySem.Spec PyProof.Rows L2

section
variable {X : Cx} {ca : Nat → Addr} {Wx : WX} {pos : Pos}
/-! chains -/
def mChain (f g : T → T → GH → R T) (a b c : M T) : M T := fun τ G => (a τ G).bind fun x G1 => (b τ G1).bind fun y G2 => (f x y G2).bind fun z G3 => (asB z G3).bind fun k G4 => if k then (c τ G4).bind fun u G5 => g y u G5 else .ok (.val (.bl false)) G4
theorem chain_in {r r' : R2} {f g : T → T → GH → R T} (hf : Says2 X ca r f) (hg : Says2 X ca r' g) {ma mb mc : M T} {σ : SSt} {H : Hp} {Q : VK} (h : tE X.K ca Wx (mChain f g ma mb mc) σ H Q) : tChain r r' (tE X.K ca Wx ma) (tE X.K ca Wx mb) (tE X.K ca Wx mc) σ H Q := by
  obtain ⟨ρ, G, τ, r0, s0, h⟩ := h
  refine tE.seq r0 s0 h fun t1 G1 ρ1 H1 v1 x1 r1 s1 q1 h1 => ?_
  refine tE.seq r1 s1 h1 fun t2 G2 ρ2 H2 v2 x2 r2 s2 q2 h2 => ?_
  have x12 := x1.trans x2
  refine hf Wx σ ρ2 G2 H2 H v1 v2 t1 t2 _ r2 (q1.ext r1 x2) (q2.back x1 x2) ?_
  refine (Post.bindX h2).imp fun z G3 ρ3 H3 _ r3 ⟨x3, h3⟩ vz qz => ?_
  obtain ⟨k, e, h4⟩ := asB_of qz h3
  refine ⟨k, e, ?_⟩
  have x13 := x12.trans x3
  cases k with
  | false =>
    rw [if_neg Bool.false_ne_true] at h4 ⊢
    exact h4 ρ3 H3 .refl r3 _ (.bl false)
  | true =>
    rw [if_pos rfl] at h4 ⊢
    refine tE.seq r3 (s2.ext r2 x3) h4 fun t4 G4 ρ4 H4 v4 x4 r4 s4 q4 h5 => ?_
    exact hg Wx σ ρ4 G4 H4 H v2 v4 t2 t4 Q r4 (((q2.ext r2 x3).ext r3 x4).back x1 (x2.trans (x3.trans x4))) (q4.back x13 x4) (h5.imp fun t G' ρ' H' x' _ q v rv => q v (rv.back (x13.trans x4) x'))
theorem s_chain {op op' : CmpOp} {a b c : Expr} {r r' : R2} {f g : T → T → GH → R T} {ma mb mc : M T} (ho : OpR X (compareOp op) r) (ho' : OpR X (compareOp op') r') (hf : Says2 X ca r f) (hg : Says2 X ca r' g)
    (ha : PE X a (tE X.K ca Wx ma)) (hb : PE X b (tE X.K ca Wx mb)) (hc : PE X c (tE X.K ca Wx mc)) (hm : lastMarks [op, op'] [b, c] = false := by with_unfolding_all rfl) : PE X (.Compare a [op, op'] [b, c] pos) (tE X.K ca Wx (mChain f g ma mb mc)) :=
  PE.weak (pe_chain ho ho' ha hb hc hm) fun _ _ _ h => chain_in hf hg h
theorem s_testChain {op op' : CmpOp} {a b c : Expr} {r r' : R2} {f g : T → T → GH → R T} {ma mb mc : M T} (ho : OpR X (compareOp op) r) (ho' : OpR X (compareOp op') r') (hf : Says2 X ca r f) (hg : Says2 X ca r' g)
    (ha : PE X a (tE X.K ca Wx ma)) (hb : PE X b (tE X.K ca Wx mb)) (hc : PE X c (tE X.K ca Wx mc)) (hm : lastMarks [op, op'] [b, c] = false := by with_unfolding_all rfl) : PT X (.Compare a [op, op'] [b, c] pos) (tT X.K ca Wx (mB (mChain f g ma mb mc))) :=
  PT.weak (pt_chain ho ho' ha hb hc hm) fun _ _ _ h => chain_in hf hg (tTest_of h)
/-! truth -/
def truT (t : T) (G : GH) : R Bool := match t with
  | .tmp ws => .ok (!ws.isEmpty) G
  | .val w => match w with
    | .non => .ok false G
    | .bl b => .ok b G
    | .int i => .ok (i != 0) G
    | .str x => if x.length ≤ 16777216 then .ok ((x.length : Int) != 0) G else .bad
    | .tup ws => .ok (!ws.isEmpty) G
    | .frl ws => .ok (!ws.isEmpty) G
    | .loc n => match G[n]?.bind GO.rd with
      | some ws => .ok (!ws.isEmpty) G
      | none => .bad
    | _ => .bad
def mTru (m : M T) : M Bool := fun τ G => (m τ G).bind truT
theorem isEmpty_rel {K : PySem.W.Frag} {ρ : List Addr} {H : Hp} {vs : List V} {ws : List W} (q : RelWs K ca ρ H vs ws) : vs.isEmpty = ws.isEmpty := by
  cases q <;> rfl
theorem s_truth {e : Expr} {m : M T} (h : PE X e (tE X.K ca Wx m)) (he : ∀ whole, isTrue e X.env whole = (do let v ← whole; standAt e.pos; holding [v] (truthy v)) := by intro _; rfl) : PT X e (tT X.K ca Wx (mTru m)) := by
  refine PT.weak (pt_truth h he) fun σ H Q ⟨ρ, G, τ, r0, s0, h⟩ => ?_
  refine tE.seq r0 s0 h fun t G1 ρ1 H1 v x1 r1 s1 q1 h1 => ?_
  cases t with
  | tmp ws =>
    obtain ⟨p, vs, rfl, hn, h0, hp, qs⟩ := q1
    exact ⟨_, .inl ⟨vs, .of hp, rfl⟩, by rw [isEmpty_rel qs]; exact h1 ρ1 H1 .refl r1⟩
  | val w =>
    cases w with
    | non => cases q1; exact ⟨false, rfl, h1 ρ1 H1 .refl r1⟩
    | bl b => cases q1; exact ⟨b, rfl, h1 ρ1 H1 .refl r1⟩
    | int b => cases q1; exact ⟨_, rfl, h1 ρ1 H1 .refl r1⟩
    | str x =>
      cases q1
      have h1 : Post X.K ca Wx σ ρ1 H1 (fun b _ _ H' => Q b H') (if x.length ≤ 16777216 then .ok ((x.length : Int) != 0) G1 else .bad) := h1
      split at h1
      · rename_i z
        exact ⟨_, ⟨by rw [sizeLine_eq]; exact z, rfl⟩, h1 ρ1 H1 .refl r1⟩
      · exact h1.elim
    | tup ws =>
      obtain ⟨a, vs, rfl, hv, qs⟩ := relW_tup q1
      exact ⟨_, .inr (.inl ⟨vs, hv, rfl⟩), by rw [isEmpty_rel qs]; exact h1 ρ1 H1 .refl r1⟩
    | loc n =>
      have h1 : Post X.K ca Wx σ ρ1 H1 (fun b _ _ H' => Q b H') (match rdw G1 (.loc n) with | some ws => .ok (!ws.isEmpty) G1 | none => .bad) := h1
      cases e : rdw G1 (.loc n) with
      | none => rw [e] at h1; exact h1.elim
      | some ws =>
        rw [e] at h1
        obtain ⟨a, vs, rfl, hv, qs⟩ := rdw_of r1 q1 e
        exact ⟨_, .inl ⟨vs, hv, rfl⟩, by rw [isEmpty_rel qs]; exact h1 ρ1 H1 .refl r1⟩
    | frl ws =>
      obtain ⟨a, vs, rfl, hv, qs⟩ := relW_frl q1
      exact ⟨_, .inl ⟨vs, hv.sq, rfl⟩, by rw [isEmpty_rel qs]; exact h1 ρ1 H1 .refl r1⟩
    | ty n => exact h1.elim
    | cls n => exact h1.elim
    | exn n a => exact h1.elim
/-! is -/
def rIsA : R2 := fun x y H Q => (y = .non ∧ Q (.bl (decide (x = .non))) H) ∨ rIsB x y H Q
def rIsNotA : R2 := fun x y H Q => (y = .non ∧ Q (.bl (!decide (x = .non))) H) ∨ rNotB x y H Q
theorem op_isA : OpR X (compareOp .Is) rIsA := op_isN.or op_isBl
theorem op_isNotA : OpR X (compareOp .IsNot) rIsNotA := op_notN.or op_notBl
theorem non_iff {K : PySem.W.Frag} {ρ : List Addr} {H : Hp} {v : V} {w : W} (q : RelW K ca ρ H v w) : decide (v = .non) = isNonW w := by
  cases q <;> simp [isNonW]
theorem says_is : Says2 X ca rIsA fIs := by
  intro Wx σ ρ G H H0 x y s t Q r qx qy hp
  unfold fIs at hp
  split at hp
  · cases qy
    exact .inl ⟨rfl, by rw [non_iff qx]; exact hp ρ H .refl r _ (.bl _)⟩
  · cases qx; cases qy
    exact .inr ⟨_, _, rfl, rfl, hp ρ H .refl r _ (.bl _)⟩
  · exact hp.elim
theorem says_isNot : Says2 X ca rIsNotA fIsNot := by
  intro Wx σ ρ G H H0 x y s t Q r qx qy hp
  unfold fIsNot at hp
  split at hp
  · cases qy
    exact .inl ⟨rfl, by rw [non_iff qx]; exact hp ρ H .refl r _ (.bl _)⟩
  · cases qx; cases qy
    exact .inr ⟨_, _, rfl, rfl, hp ρ H .refl r _ (.bl _)⟩
  · exact hp.elim
/-! minus -/
def fNeg (t : T) (G : GH) : R T := match t with
  | .val (.int i) => .ok (.val (.int (-i))) G
  | _ => .bad
theorem s_neg {a : Expr} {ma : M T} (ha : PE X a (tE X.K ca Wx ma)) : PE X (.UnaryOp .USub a pos) (tE X.K ca Wx (mUn fNeg ma)) := by
  refine PE.weak (pe_un un_neg ha) fun σ H Q ⟨ρ, G, τ, r0, s0, h⟩ => ?_
  refine tE.seq r0 s0 h fun t G1 ρ1 H1 v x1 r1 s1 q1 h1 => ?_
  unfold fNeg at h1
  split at h1
  · cases q1
    exact ⟨_, rfl, h1 ρ1 H1 .refl r1 _ (.int _)⟩
  · exact h1.elim
/-! += -/
def rAugA : R2 := fun x y H Q => rI0 (fun i j => .int (i + j)) x y H Q ∨ (∃ i j, x = .str i ∧ y = .str j ∧ i.length + j.length ≤ sizeLine ∧ Q (.str (i ++ j)) H) ∨ rExt2 x y H Q
theorem aug_add : PIp X .Add rAugA := by
  intro pins s σ H x y v u Q I r1 r2 h
  exact (iop_add.or (iop_add_str.or iop_ext)) pins s σ H x y v u Q I r1 r2 h
theorem aug_I {op : Operator} {r : R2} (h : OpR X (inplaceOp op) r) : PIp X op r := fun pins s σ H x y v u Q I r1 r2 q => h pins s σ H x y v u Q I r1 r2 q
def fAugAdd (s t : T) (G : GH) : R T := match s with
  | .val (.int i) => match t with
    | .val (.int j) => .ok (.val (.int (i + j))) G
    | _ => .bad
  | .val (.str x) => match t with
    | .val (.str y) => if x.length + y.length ≤ 16777216 then .ok (.val (.str (x ++ y))) G else .bad
    | _ => .bad
  | s => match lstAt s G, wrl t G with
    | some (n, us), some ws => if us.length + ws.length ≤ 16777216 then .ok (.val (.loc n)) (G.set n (.lst (us ++ ws))) else .bad
    | _, _ => .bad
theorem says_augAdd : Says2 X ca rAugA fAugAdd := by
  intro Wx σ ρ G H H0 x y s t Q r qx qy hp
  unfold fAugAdd at hp
  split at hp
  · split at hp
    · cases qx; cases qy
      exact .inl ⟨_, _, rfl, rfl, hp ρ H .refl r _ (.int _)⟩
    · exact hp.elim
  · split at hp
    · split at hp
      · rename_i z
        cases qx; cases qy
        exact .inr (.inl ⟨_, _, rfl, rfl, by rw [sizeLine_eq]; exact z, hp ρ H .refl r _ (.str _)⟩)
      · exact hp.elim
    · exact hp.elim
  · split at hp
    · rename_i n us ws e1 e2
      split at hp
      · rename_i z
        obtain ⟨a, vs, rfl, hn, ha, qa⟩ := lstAt_of r qx e1
        obtain ⟨b, vs2, rfl, hb, qb⟩ := wrl_of r qy e2
        exact .inr (.inr ⟨a, b, vs, vs2, rfl, rfl, ha, hb, by rw [sizeLine_eq, qa.length, qb.length]; exact z, hp ρ _ (.put hn) (r.put hn ha (relWs_app qa qb)) _ (.loc hn)⟩)
      · exact hp.elim
    · exact hp.elim
/-! slices -/
def tO (K : PySem.W.Frag) (ca : Nat → Addr) (Wx : WX) (m : M (Option Int)) : TO := fun σ H Q => ∃ ρ G τ, Rep K ca ρ G H ∧ RelS K ca ρ H σ τ ∧ Post K ca Wx σ ρ H (fun o _ _ H' => Q o H') (m τ G)
def mNoP : M (Option Int) := fun _ G => .ok none G
def mP (m : M T) : M (Option Int) := fun τ G => (m τ G).bind fun t G1 => match t with
  | .val (.int i) => .ok (some i) G1
  | _ => .bad
theorem PO.weak {X : Cx} {e : Option Expr} {t t' : TO} (h : PO X e t) (f : ∀ σ H Q, t' σ H Q → t σ H Q) : PO X e t' := ⟨fun pins s σ H Q I q => h.run pins s σ H Q I (f σ H Q q)⟩
theorem o_none : PO X none (tO X.K ca Wx mNoP) := PO.weak po_none fun σ H Q ⟨ρ, G, τ, r, s, h⟩ => h ρ H .refl r
theorem o_some {e : Expr} {m : M T} (h : PE X e (tE X.K ca Wx m)) : PO X (some e) (tO X.K ca Wx (mP m)) := PO.weak (po_some h) fun σ H Q ⟨ρ, G, τ, r, s, h⟩ => by
  refine tE.seq r s h fun t G1 ρ1 H1 v x1 r1 s1 q1 h1 => ?_
  split at h1
  · cases q1
    exact ⟨_, rfl, h1 ρ1 H1 .refl r1⟩
  · exact h1.elim
def cutW (xs : List W) (lo hi : Option Int) : List W := (xs.drop (HT.sIx xs.length 0 lo)).take (HT.sIx xs.length xs.length hi - HT.sIx xs.length 0 lo)
def fSl (t : T) (lo hi : Option Int) (G : GH) : R T := match t with
  | .val (.str z) => if z.length ≤ 16777216 then .ok (.val (.str (cutS z lo hi))) G else .bad
  | .val (.tup ws) => .ok (.val (.tup (cutW ws lo hi))) G
  | t => match rdl t G with
    | some ws => .ok (.tmp (cutW ws lo hi)) G
    | none => .bad
def mSl (m : M T) (l u : M (Option Int)) : M T := fun τ G => (m τ G).bind fun t G1 => (l τ G1).bind fun lo G2 => (u τ G2).bind fun hi G3 => fSl t lo hi G3
theorem relWs_cut {K : PySem.W.Frag} {ρ : List Addr} {H : Hp} {vs : List V} {ws : List W} (q : RelWs K ca ρ H vs ws) (lo hi : Option Int) : RelWs K ca ρ H (cutV vs lo hi) (cutW ws lo hi) := by
  have hl := q.length
  unfold cutV cutW
  rw [hl]
  refine relWs_of (by simp [hl]) fun i v w e1 e2 => ?_
  rw [List.getElem?_take] at e1 e2
  split at e1
  · rw [if_pos (by assumption)] at e2
    rw [List.getElem?_drop] at e1 e2
    exact paired_get q _ v w e1 e2
  · cases e1
theorem s_sl {e : Expr} {lo hi : Option Expr} {p2 : Pos} {m : M T} {l u : M (Option Int)} (he : PE X e (tE X.K ca Wx m)) (hl : PO X lo (tO X.K ca Wx l)) (hu : PO X hi (tO X.K ca Wx u)) : PE X (.Subscript e (.Slice lo hi none p2) pos) (tE X.K ca Wx (mSl m l u)) := by
  refine PE.weak (pe_slice (sl_list.or (sl_tupA.or sl_str)) he hl hu) fun σ H Q ⟨ρ, G, τ, r, s, h⟩ => ?_
  refine tE.seq r s h fun t G1 ρ1 H1 v x1 r1 s1 q1 h1 => ?_
  refine ⟨ρ1, G1, τ, r1, s1, (Post.bindX h1).imp fun lo G2 ρ2 H2 _ r2 ⟨x2, h2⟩ => ?_⟩
  have s2 := s1.ext r1 x2
  refine ⟨ρ2, G2, τ, r2, s2, (Post.bindX h2).imp fun hi G3 ρ3 H3 _ r3 ⟨x3, h3⟩ => ?_⟩
  have q3 := (q1.ext r1 x2).ext r2 x3
  unfold fSl at h3
  split at h3
  · cases q3
    split at h3
    · rename_i z
      exact .inr (.inr ⟨_, rfl, by rw [sizeLine_eq]; exact z, h3 ρ3 H3 .refl r3 _ (.str _)⟩)
    · exact h3.elim
  · have q3' := q3
    obtain ⟨a, vs, rfl, hv, qs⟩ := relW_tup q3
    refine .inr (.inl ⟨a, vs, rfl, hv, fun hw => ?_, fun _ p hp => h3 ρ3 _ (.laid hp) (r3.laid hp) _ (RelW.tup' (.of upd_same) (relWs_ext (relWs_cut qs lo hi) r3 (.laid hp)))⟩)
    rw [qs.length] at hw
    have e : ∀ ws : List W, HT.sIx ws.length 0 lo = 0 ∧ HT.sIx ws.length ws.length hi = ws.length → cutW ws lo hi = ws := fun ws hw => by
      unfold cutW
      rw [hw.1, hw.2, List.drop_zero, Nat.sub_zero, List.take_length]
    rw [e _ hw] at h3
    exact h3 ρ3 H3 .refl r3 _ q3'
  · cases e : rdl t G3 with
    | none => rw [e] at h3; exact h3.elim
    | some ws =>
      rw [e] at h3
      obtain ⟨a, vs, rfl, hv, qs⟩ := rdl_of r3 q3 e
      refine .inl ⟨a, vs, rfl, hv, fun p hp => h3 ρ3 _ (.laid hp) (r3.laid hp) _ ?_⟩
      exact (fresh_tmp r3 hp (relWs_cut qs lo hi)).back (x1.trans (x2.trans x3)) (.laid hp)
/-! constants of the module -/
structure KonW (K : PySem.W.Frag) (mg : Str → Option Value) (ca : Nat → Addr) (x : Str) (w : W) : Prop where
  ex : ∃ (u : Value) (v : V), mg x = some u ∧ RelV v u ∧ ∀ ρ H, RelW K ca ρ H v w
theorem s_glob {x : Str} {w : W} (hg : Gl X x) (k : KonW X.K X.mg ca x w) (hd : (x == ("__debug__" : Str)) = false := by decide) : PE X (.Name x pos) (tE X.K ca Wx (mC w)) := by
  obtain ⟨u, v, hm, rv, hw⟩ := k.ex
  exact s_const (pe_glob hg hm rv hd) hw
theorem hu_five {k : Nat} {A : Around} (hr : Room k A) : A.units + 65 < cLine := by have := hr.un; omega
end
/-! defs with defaults -/
section
variable {P : Program} {w : World} {K : PySem.W.Frag} {mg : Str → Option Value} {base : Heap} {ca : Nat → Addr}
theorem def_okD {x qual : Str} {params : Arguments} {body : List Stmt} {scope : Scope} {dvs : List V} {kws : List (Str × V)} {f : Addr} {fd : FuncData} {N ps : List Str} {k : Nat} {mb : MS} (F : FunD K x qual params body scope dvs kws f fd) (S : FnScope N ps scope)
    (hb : ∀ (cdv : Value) (A : Around) (outer : List Env) (s : Shared) (H : Hp) (E : XK), Room k (A.deeper (envOfC qual scope s.heap.objs.size f cdv)) →
      PSs (cxOf (L2N.CX P w) P w K mg base N qual scope f cdv A outer s H E) body (tS K ca (fun c d _ H => E c d H) mb)) :
    FnOk P w K mg base (L2N.CX P w) (k + 1) f fd ps (spM K ca ps.length (mDef N.length mb)) := by
  refine F.ok S (fun vs H Q E h => h.1) fun cdv A outer s H vs Q E hr h => ?_
  obtain ⟨hl, ρ, G, ws, r, q, h⟩ := h
  refine ⟨_, hb cdv A outer s H E hr, ρ, G, _, r, relS_start q, ?_⟩
  unfold mDef at h
  cases e : mb (ws.map some ++ List.replicate (N.length - ws.length) none) G with
  | nx τ G' => rw [e] at h; exact fun ρ' H' σ' x r' s' => h ρ' H' x r' .non .non
  | rt w G' => rw [e] at h; exact fun ρ' H' v x r' q' => h ρ' H' x r' v q'
  | ex c fs τ G' => rw [e] at h; exact fun ρ' H' d σ' x r' s' ef => h ρ' H' d x r' ef
  | bk τ G' => rw [e] at h; exact h.elim
  | ct τ G' => rw [e] at h; exact h.elim
  | bad => rw [e] at h; exact h.elim
end
/-! names of the built-ins -/
theorem bt_len : bootBuiltins "len" = some (.builtin "len") := by decide +kernel
theorem bt_all : bootBuiltins "all" = some (.builtin "all") := by decide +kernel
theorem bt_any : bootBuiltins "any" = some (.builtin "any") := by decide +kernel
theorem bt_sum : bootBuiltins "sum" = some (.builtin "sum") := by decide +kernel
theorem bt_divmod : bootBuiltins "divmod" = some (.builtin "divmod") := by decide +kernel
theorem bt_isinstance : bootBuiltins "isinstance" = some (.builtin "isinstance") := by decide +kernel
theorem bt_int : bootBuiltins "int" = some (.type "int") := by decide +kernel
theorem bt_bool : bootBuiltins "bool" = some (.type "bool") := by decide +kernel
theorem bt_str : bootBuiltins "str" = some (.type "str") := by decide +kernel
theorem bt_list : bootBuiltins "list" = some (.type "list") := by decide +kernel
theorem bt_tuple : bootBuiltins "tuple" = some (.type "tuple") := by decide +kernel
theorem bt_dict : bootBuiltins "dict" = some (.type "dict") := by decide +kernel
end Sy
set_option Elab.async false
set_option linter.all false
set_option maxRecDepth 100000
set_option maxHeartbeats 4000000
namespace Sy
open PySem PySem.Spec PyProof.Rows L2

/-! own exception classes: numbers c, their classes at ca c -/
inductive CK where
  | own (j : Nat) | ty (n : String)
deriving DecidableEq
def ckW : W → Option CK
  | .cls j => some (.own j)
  | .ty n => some (.ty n)
  | _ => none
def CK.val (ca : Nat → Addr) : CK → Value
  | .own j => .ref (ca j)
  | .ty n => .type n
abbrev ITab := List (Nat × CK × Bool)
abbrev XTab := List (Nat × Nat × Bool)
def isub (tab : ITab) (c : Nat) (k : CK) : Option Bool := (tab.find? fun e => decide (e.1 = c) && decide (e.2.1 = k)).map fun e => e.2.2
def xsub (tab : XTab) (c j : Nat) : Option Bool := (tab.find? fun e => decide (e.1 = c) && decide (e.2.1 = j)).map fun e => e.2.2
/-- a class that may be raised -/
structure ExW (K : PySem.W.Frag) (mg : Str → Option Value) (ca : Nat → Addr) (x : Str) (c : Nat) : Prop where
  gC : mg x = some (.ref (ca c))
  q : PySem.W.excIn K (ca c) He.veBase "ValueError.__new__" = true
  kC : PySem.W.keepIn K (.ref (ca c)) = true
  s : PySem.W.subIn K (.ref (ca c)) (.type "BaseException") = some true
  t : PySem.W.typeIn K (.ref (ca c)) = some (.type "type")
structure Exs (K : PySem.W.Frag) (ca : Nat → Addr) (it : ITab) (xt : XTab) : Prop where
  isi : ∀ e ∈ it, PySem.W.kitOne K (.ref (ca e.1)) (e.2.1.val ca) = some e.2.2 ∧ ExcC K (ca e.1)
  exm : ∀ e ∈ xt, PySem.W.exmOne K (.ref (ca e.1)) (.ref (ca e.2.1)) = some e.2.2
theorem isub_mem {tab : ITab} {c : Nat} {k : CK} {b : Bool} (h : isub tab c k = some b) : (c, k, b) ∈ tab := by
  unfold isub at h
  cases e : tab.find? fun e => decide (e.1 = c) && decide (e.2.1 = k) with
  | none => rw [e] at h; cases h
  | some x =>
    rw [e] at h
    cases h
    have h1 := List.mem_of_find?_eq_some e
    have h2 := List.find?_some e
    rw [Bool.and_eq_true] at h2
    have h3 := of_decide_eq_true h2.1
    have h4 := of_decide_eq_true h2.2
    obtain ⟨a, b, c⟩ := x
    dsimp only at h3 h4
    subst h3; subst h4
    exact h1
theorem xsub_mem {tab : XTab} {c k : Nat} {b : Bool} (h : xsub tab c k = some b) : (c, k, b) ∈ tab := by
  unfold xsub at h
  cases e : tab.find? fun e => decide (e.1 = c) && decide (e.2.1 = k) with
  | none => rw [e] at h; cases h
  | some x =>
    rw [e] at h
    cases h
    have h1 := List.mem_of_find?_eq_some e
    have h2 := List.find?_some e
    rw [Bool.and_eq_true] at h2
    have h3 := of_decide_eq_true h2.1
    have h4 := of_decide_eq_true h2.2
    obtain ⟨a, b, c⟩ := x
    dsimp only at h3 h4
    subst h3; subst h4
    exact h1

/-! raise -/
def sRaise (c : Nat) : MS := fun τ G => .ex c [] τ G
section
variable {X : Cx} {ca : Nat → Addr} {Wx : WX} {pos : Pos}
theorem s_raise {x m : Str} {j c : Nat} {p p2 p3 : Pos} (hc : X.calm = true) (tk : L2N.Takes X Wx) (E : ExW X.K X.mg ca x c) (hg : Gl X x) (hdb : (x == ("__debug__" : Str)) = false := by decide) :
    PS X (.Raise (some (.Call (.Name x p) [.Constant (.str m) j p2] [] p3)) none pos) (tS X.K ca Wx (sRaise c)) := by
  refine PS.weak (L2N.ps_raise hc tk (L2N.pmk_own PySem.F.excBase_ValueError E.q E.gC E.kC (raises_own E.s E.t) hg hdb)) fun D σ H ⟨ρ, G, τ, r, s, h⟩ => ?_
  exact h ρ H none σ .refl r s rfl
/-! isinstance of the error that a suite, or a def called there, holds -/
/-- the context holds the error at a, of the class c -/
def Has (X : Cx) (ca : Nat → Addr) (c : Nat) (a : Addr) : Prop := X.A.handled = some (.ref a) ∧ ∃ oe : Obj, (a, oe) ∈ X.pn ∧ Zc (.ref (ca c)) none oe ∧ ∃ vs : Array Value, oe.data = .fields vs ∧ vs[2]? = some .none
open Classical in
noncomputable def fIsE (it : ITab) (c : Nat) (a : Addr) (ts : List T) (G : GH) : R T := match ts with
  | [.val (.exn c' a'), .val k] => if c' = c ∧ a' = a then match (ckW k).bind (isub it c) with
      | some b => .ok (.val (.bl b)) G
      | none => .bad
    else .bad
  | _ => .bad
theorem ck_rel {K : PySem.W.Frag} {ρ : List Addr} {H : Hp} {w : W} {k : CK} {v : V} (h : ckW w = some k) (q : RelW K ca ρ H v w) : ∀ u, RelV v u → u = k.val ca := by
  cases w with
  | cls j => cases h; cases q; intro u r; exact r
  | ty n => cases h; cases q; intro u r; exact r
  | _ => cases h
theorem call_isX {c : Nat} {a : Addr} (C : ExcC X.K (ca c)) (hz : Has X ca c a) : CallR X (.builtin "isinstance") (rIsE X.K (ca c) a) := by
  intro pins s σ H xs us Q I r h
  obtain ⟨v, cv, b, rfl, hcv, e, q⟩ := h
  obtain ⟨_, oe, hm, hz, vs, hf, _⟩ := hz
  obtain ⟨u1, u2, rfl, r1, r2⟩ := vals2 r
  cases (show u1 = Value.ref a from r1)
  cases hcv _ r2
  have J : PySem.W.InstAt s.heap a oe (ca c) none := by
    have g := (I.pin (a, oe) (List.mem_append.mpr (.inl hm))).1
    obtain ⟨oc, od, oda, osl⟩ := oe
    obtain ⟨z1, z2⟩ := hz
    dsimp only at z1 z2 hf
    subst z1; subst z2; subst hf
    exact ⟨g, rfl, rfl, trivial⟩
  exact PySem.W.kia_one (PySem.W.handS_kitx_exc C.hg C.hk C.hs C.hd C.ha C.hn C.ht C.hm) I.kIn J e (fun z => nomatch z) fun tk => ⟨.bl b, H, I.kept (t' := tk) fun _ _ z => z, rfl, q⟩
theorem says_isE {it : ITab} {xt : XTab} {c : Nat} {a : Addr} (E : Exs X.K ca it xt) : SaysC X ca (fun xs H Q => ExcC X.K (ca c) ∧ rIsE X.K (ca c) a xs H Q) (fIsE it c a) := by
  intro Wx σ ρ G H H0 xs ts Q r q h
  unfold fIsE at h
  split at h
  · rename_i c' a' k
    split at h
    · rename_i z
      obtain ⟨rfl, rfl⟩ := z
      obtain ⟨v, u, rfl, qv, qu⟩ := relTs_two q
      cases qv
      cases e : ckW k with
      | none => rw [e] at h; exact h.elim
      | some ck =>
        rw [e] at h
        cases e2 : isub it c' ck with
        | none => rw [Option.bind_some, e2] at h; exact h.elim
        | some b =>
          rw [Option.bind_some, e2] at h
          obtain ⟨k1, k2⟩ := E.isi _ (isub_mem e2)
          exact ⟨k2, u, _, b, rfl, ck_rel e qu, k1, h ρ H .refl r _ (.bl _)⟩
    · exact h.elim
  · exact h.elim
theorem call_isX' {c : Nat} {a : Addr} (hz : Has X ca c a) : CallR X (.builtin "isinstance") (fun xs H Q => ExcC X.K (ca c) ∧ rIsE X.K (ca c) a xs H Q) :=
  fun pins s σ H xs us Q I r h => call_isX h.1 hz pins s σ H xs us Q I r h.2

/-! try .. except x as n -/
/-- an outcome that is the same whatever address the error has -/
noncomputable def pick (f : Addr → RS) : RS := open Classical in if h : ∃ r, ∀ a, f a = r then choose h else .bad
theorem pick_eq {f : Addr → RS} {r : RS} (h : ∀ a, f a = r) : pick f = r := by
  unfold pick
  have e : ∃ r, ∀ a, f a = r := ⟨r, h⟩
  rw [dif_pos e]
  exact (Classical.choose_spec e 0).symm.trans (h 0)
theorem pick_at {f : Addr → RS} (h : pick f ≠ .bad) (a : Addr) : f a = pick f := by
  unfold pick at h ⊢
  split at h
  · rename_i e
    rw [dif_pos e]
    exact Classical.choose_spec e a
  · exact absurd rfl h
/-- the name is gone behind the suite -/
def RS.unS (i : Nat) : RS → RS
  | .nx τ G => .nx (τ.set i none) G
  | .bk τ G => .bk (τ.set i none) G
  | .ct τ G => .ct (τ.set i none) G
  | .rt w G => .rt w G
  | _ => .bad
noncomputable def sTry (xt : XTab) (C i : Nat) (mb : MS) (ms : Nat → Addr → MS) : MS := fun τ G => match mb τ G with
  | .ex c fs τ1 G1 => match fs with
    | [] => match xsub xt c C with
      | some true => pick fun a => (ms c a (τ1.set i (some (.exn c a))) G1).unS i
      | some false => .ex c [] τ1 G1
      | none => .bad
    | _ :: _ => .bad
  | r => r
theorem exF_nil {K : PySem.W.Frag} {ρ : List Addr} {H : Hp} {d : Option Addr} (h : ExF K ca ρ H d []) : d = none := by
  cases d with
  | none => rfl
  | some d => exact absurd rfl h.1
def unE (i : Nat) (D : Ends) : Ends := { nx := fun σ' H' => D.nx (σ'.set i none) H', rt := D.rt, bk := fun σ' H' => D.bk (σ'.set i none) H', ct := fun σ' H' => D.ct (σ'.set i none) H' }
theorem unS_post {K : PySem.W.Frag} {i : Nat} {D : Ends} {ρ : List Addr} {H : Hp} {r : RS} (h : PostS K ca Wx D ρ H (r.unS i)) : PostS K ca wF (unE i D) ρ H r := by
  cases r with
  | nx τ G => exact fun ρ' H' σ' x r s => h ρ' H' _ x r (s.unset i)
  | bk τ G => exact fun ρ' H' σ' x r s => h ρ' H' _ x r (s.unset i)
  | ct τ G => exact fun ρ' H' σ' x r s => h ρ' H' _ x r (s.unset i)
  | rt w G => exact h
  | ex c fs τ G => exact h.elim
  | bad => exact h.elim
theorem PSs.any {X : Cx} {ss : List Stmt} {ι : Type} {P : ι → Prop} {t : ι → TS} (h : ∀ c, P c → PSs X ss (t c)) : PSs X ss (fun D σ H => ∃ c, P c ∧ t c D σ H) :=
  ⟨fun pins s σ H D I ⟨c, hc, q⟩ => (h c hc).run pins s σ H D I q⟩
theorem s_try {x n : Str} {C i : Nat} {it : ITab} {xt : XTab} {body suite : List Stmt} {b₀ : Stmt} {np pos' : Pos} {mb : MS} {ms : Nat → Addr → MS} (E : Exs X.K ca it xt) (hs : X.stack = X.env :: X.outer) (hf : X.env.frame = some X.env.locals) (hN : X.N.Nodup) (hi : X.N[i]? = some n)
    (hln : X.env.kindOf n = some .local) (hc : Names X x (.ref (ca C))) (tk : L2N.Takes X Wx)
    (hb : ∀ (W : WX) (pn : List (Addr × Obj)) (xe : Value → Shared → Prop), L2N.Takes (X.tr pn xe) W → PassesOwn (model X.prog X.w) X.A X.env xe → PSs (X.tr pn xe) body (tS X.K ca W mb))
    (hsu : ∀ (c : Nat) (a : Addr) (oe : Obj) (pn : List (Addr × Obj)), Has (X.suite a ((a, oe) :: pn)) ca c a → PSs (X.suite a ((a, oe) :: pn)) (b₀ :: suite) (tS X.K ca wF (ms c a))) :
    PS X (.Try body [.ExceptHandler (some (.Name x np)) (some n) (b₀ :: suite) pos'] [] [] pos) (tS X.K ca Wx (sTry xt C i mb ms)) := by
  refine PS.weak (L2N.ps_try_as (ts := fun a cls d D σ H => ∃ c, (cls = .ref (ca c) ∧ d = none) ∧ tS X.K ca wF (ms c a) D σ H) (tb := fun W => tS X.K ca W mb) hs hf hN hi hln hc tk hb (fun a oe cls d pn hz hfd => ?_)) fun D σ H ⟨ρ, G, τ, r, s, h⟩ => ?_
  · refine PSs.any fun c hcd => ?_
    obtain ⟨rfl, rfl⟩ := hcd
    obtain ⟨vs, hf⟩ := hfd
    exact hsu c a oe pn ⟨rfl, oe, List.mem_cons_self, hz.zc, vs, hf, hz.2.2 vs hf⟩
  · refine ⟨ρ, G, τ, r, s, ?_⟩
    unfold sTry at h
    cases e : mb τ G with
    | nx τ1 G1 => rw [e] at h; exact h
    | rt w G1 => rw [e] at h; exact h
    | bk τ1 G1 => rw [e] at h; exact h
    | ct τ1 G1 => rw [e] at h; exact h
    | bad => rw [e] at h; exact h
    | ex c fs τ1 G1 =>
      rw [e] at h
      cases fs with
      | cons f fs => exact h.elim
      | nil =>
        dsimp only at h
        cases e2 : xsub xt c C with
        | none => rw [e2] at h; exact h.elim
        | some b =>
          rw [e2] at h
          have k := E.exm _ (xsub_mem e2)
          intro ρ1 H1 d σ1 x1 r1 s1 ef
          have hd := exF_nil ef
          subst hd
          cases b with
          | false => exact ⟨false, k, fun z => Bool.noConfusion z, fun _ => h ρ1 H1 none σ1 x1 r1 s1 ef⟩
          | true =>
            refine ⟨true, k, fun _ a ha => ⟨c, ⟨rfl, rfl⟩, ρ1, G1, τ1.set i (some (.exn c a)), r1, s1.set i (.exn c a), ?_⟩, fun z => Bool.noConfusion z⟩
            have h2 : PostS X.K ca Wx D ρ H (pick fun a => (ms c a (τ1.set i (some (.exn c a))) G1).unS i) := h
            have nb : (pick fun a => (ms c a (τ1.set i (some (.exn c a))) G1).unS i) ≠ .bad := fun z => by rw [z] at h2; exact h2
            rw [← pick_at nb a] at h2
            exact PostS.later (unS_post h2) x1

/-! {} -/
theorem Rep.takeO {K : PySem.W.Frag} {ρ : List Addr} {G : GH} {H : Hp} (r : Rep K ca ρ G H) {p : Addr} {o : GO} (hn : p ∉ ρ) (ho : ObjR K ca ρ H p o) : Rep K ca (ρ ++ [p]) (G ++ [o]) H := by
  have pre : ∀ (n : Nat) a, ρ[n]? = some a → (ρ ++ [p])[n]? = some a := fun n a e => by
    rw [List.getElem?_append_left (List.getElem?_eq_some_iff.mp e).1]; exact e
  refine ⟨by simp [r.len], ?_, fun n a u e1 e2 => ?_⟩
  · rw [List.nodup_append]
    refine ⟨r.nd, by simp, fun a ha b hb e => ?_⟩
    have : b = p := by simpa using hb
    exact hn (by rw [← this, ← e]; exact ha)
  · by_cases hl : n < ρ.length
    · rw [List.getElem?_append_left hl] at e1
      rw [List.getElem?_append_left (by rw [← r.len]; exact hl)] at e2
      exact objR_mono (r.obj n a u e1 e2) pre Stay.refl rfl
    · have hl2 : ρ.length ≤ n := Nat.le_of_not_lt hl
      rw [List.getElem?_append_right hl2] at e1
      rw [List.getElem?_append_right (by rw [← r.len]; exact hl2), ← r.len] at e2
      cases h0 : n - ρ.length with
      | zero =>
        rw [h0] at e1 e2
        simp at e1 e2
        subst e1; subst e2
        exact objR_mono ho pre Stay.refl rfl
      | succ k =>
        rw [h0] at e1
        simp at e1
def mDict0 : M T := fun _ G => .ok (.val (.loc G.length)) (G ++ [.dK []])
theorem s_dict0 : PE X (.Dict [] [] pos) (tE X.K ca Wx mDict0) := by
  refine PE.weak pe_dnewK fun σ H Q ⟨ρ, G, τ, r, s, h⟩ => ?_
  intro p hp
  have r1 : Rep X.K ca ρ G (upd H p (.dK [])) := r.laid hp
  refine h (ρ ++ [p]) (upd H p (.dK [])) ((Ext.laid hp).take hp) (r1.takeO (r.fresh hp) ⟨[], upd_same, .nil⟩) (.ref p) (.loc ?_)
  rw [← r.len]
  simp
/-! a class of the module as a value -/
theorem konW_cls {K : PySem.W.Frag} {mg : Str → Option Value} {x : Str} {c : Nat} (h : mg x = some (.ref (ca c))) : KonW K mg ca x (.cls c) := ⟨_, .ref (ca c), h, rfl, fun _ _ => .cls c⟩
/-! more built-ins -/
def fMin (ts : List T) (G : GH) : R T := match ts with
  | [.val (.int i), .val (.int j)] => .ok (.val (.int (if j < i then j else i))) G
  | _ => .bad
def fMax (ts : List T) (G : GH) : R T := match ts with
  | [.val (.int i), .val (.int j)] => .ok (.val (.int (if j > i then j else i))) G
  | _ => .bad
def fAbs (ts : List T) (G : GH) : R T := match ts with
  | [.val (.int i)] => .ok (.val (.int (if i < 0 then -i else i))) G
  | _ => .bad
def fStr (ts : List T) (G : GH) : R T := match ts with
  | [.val (.int i)] => if i.natAbs.log2 < 1920 then .ok (.val (.str (toString i))) G else .bad
  | _ => .bad
theorem says_min : SaysC X ca (fun xs H Q => ∃ i j, xs = [.int i, .int j] ∧ Q (.int (if j < i then j else i)) H) fMin := by
  intro Wx σ ρ G H H0 xs ts Q r q h
  unfold fMin at h
  split at h
  · obtain ⟨v, u, rfl, qv, qu⟩ := relTs_two q
    cases qv; cases qu
    exact ⟨_, _, rfl, h ρ H .refl r _ (.int _)⟩
  · exact h.elim
theorem says_max : SaysC X ca (fun xs H Q => ∃ i j, xs = [.int i, .int j] ∧ Q (.int (if j > i then j else i)) H) fMax := by
  intro Wx σ ρ G H H0 xs ts Q r q h
  unfold fMax at h
  split at h
  · obtain ⟨v, u, rfl, qv, qu⟩ := relTs_two q
    cases qv; cases qu
    exact ⟨_, _, rfl, h ρ H .refl r _ (.int _)⟩
  · exact h.elim
theorem says_abs : SaysC X ca (fun xs H Q => ∃ i, xs = [.int i] ∧ Q (.int (if i < 0 then -i else i)) H) fAbs := by
  intro Wx σ ρ G H H0 xs ts Q r q h
  unfold fAbs at h
  split at h
  · obtain ⟨v, rfl, qv⟩ := relTs_one q
    cases qv
    exact ⟨_, rfl, h ρ H .refl r _ (.int _)⟩
  · exact h.elim
theorem says_strI : SaysC X ca (fun xs H Q => ∃ i, xs = [.int i] ∧ i.natAbs.log2 < 1920 ∧ Q (.str (toString i)) H) fStr := by
  intro Wx σ ρ G H H0 xs ts Q r q h
  unfold fStr at h
  split at h
  · obtain ⟨v, rfl, qv⟩ := relTs_one q
    cases qv
    split at h
    · rename_i z
      exact ⟨_, rfl, z, h ρ H .refl r _ (.str _)⟩
    · exact h.elim
  · exact h.elim
theorem bt_min : bootBuiltins "min" = some (.builtin "min") := by decide +kernel
theorem bt_max : bootBuiltins "max" = some (.builtin "max") := by decide +kernel
theorem bt_abs : bootBuiltins "abs" = some (.builtin "abs") := by decide +kernel
theorem bt_ValueError : bootBuiltins "ValueError" = some (.type "ValueError") := by decide +kernel
end
end Sy
set_option Elab.async false
set_option linter.all false
set_option maxRecDepth 100000
set_option maxHeartbeats 4000000
namespace Sy
open PySem PySem.Spec PyProof.Rows L2
theorem takesN {X : Cx} : L2N.Takes X wF := fun u s' h => by
  obtain ⟨_, _, _, _, _, _, _, _, _, _, _, _, _, _, _, _, w⟩ := h
  exact w.elim
/-! defs that are called where an error is handled, and are handed it -/
structure FnX (P : Program) (w : World) (K : PySem.W.Frag) (mg : Str → Option Value) (base : Heap) (ca : Nat → Addr) (k : Nat) (f : Addr) (fd : FuncData) (ps : List Str) (sp : Nat → Addr → Sp) : Prop where
  ln : ∀ c a vs H Q E, sp c a vs H Q E → vs.length = ps.length
  go : ∀ (A : Around) (out : List Env) (s : Shared) (H : Hp) (us : List Value) (vs : List V) (Q : VK) (E : XK) (p : Addr × Obj) (c : Nat), L2H.RoomH k A → L2H.Hot1 A p → L2H.PinOk out H s p → Zc (.ref (ca c)) none p.2 →
    Env0 P w K mg base A out s H → BindsTo s fd ⟨us, []⟩ (ps.zip us) → Vals vs us → sp c p.1 vs H Q E → codeAny (model P w) A (.call (.ref f) ⟨us, []⟩) (CR (L2N.CX P w) out P w H s Q E) s
section
variable {P : Program} {w : World} {K : PySem.W.Frag} {mg : Str → Option Value} {base : Heap} {ca : Nat → Addr}
theorem fnX_of {x qual : Str} {params : Arguments} {body : List Stmt} {scope : Scope} {f : Addr} {fd : FuncData} {N ps : List Str} {k : Nat} {sp : Nat → Addr → Sp} (F : FunD K x qual params body scope [] [] f fd) (S : FnScope N ps scope)
    (ln : ∀ c a vs H Q E, sp c a vs H Q E → vs.length = ps.length)
    (hb : ∀ (cdv : Value) (A : Around) (out : List Env) (s : Shared) (H : Hp) (vs : List V) (Q : VK) (E : XK) (p : Addr × Obj) (c : Nat), L2H.Hot1 A p → Zc (.ref (ca c)) none p.2 → L2H.RoomH k (A.deeper (envOfC qual scope s.heap.objs.size f cdv)) → sp c p.1 vs H Q E →
      ∃ t, PSs (L2H.cxH (L2N.CX P w) P w K mg base N qual scope f cdv A out s H E p) body t ∧ t { nx := fun _ H2 => Q .non H2, rt := Q } (L2.start N vs) H) :
    FnX P w K mg base ca (k + 1) f fd ps sp := by
  obtain ⟨oc, od, dV, kV, doc, pm, an, cdv, ct, osl, rfl, lk, cd, _, _⟩ := F.ex
  refine ⟨ln, fun A out s H us vs Q E p c rm hot pin zc env bd rel sat => ?_⟩
  have hlen := ln _ _ _ _ _ _ sat
  have stay : ∀ b o, base.get? b = some o → s.heap.get? b = some o := fun b o z => (env.bs b o z).1
  have inK : K.In s.heap := env.mod.kin.keeps stay
  have nolim : s.heap.NoLimit := env.mod.nolimit.keeps stay
  have kinds : ∀ y ∈ ps.zip us, scope.names.lookup y.1 = some .local ∨ (scope.names.lookup y.1 = some .cell ∧ ((cellsFrom (s.heap.objs.size + 1) scope.names []).lookup y.1).isSome = true) := by
    rintro ⟨n, u⟩ hy
    rcases S.par n (List.of_mem_zip hy).1 with z | z
    · exact .inl z
    · exact .inr ⟨z, PySem.W.cellsFrom_some _ _ _ (.inl z)⟩
  refine codeAny_call_function rm.depth (inK _ _ lk) rfl S.co S.gen rfl (PySem.W.codeRec_of inK cd) (bd _ _ _ _ ?_)
  refine wpAny_newFunctionEnv_cells S.kind kinds fun env2 he s1 ic => ?_
  subst he
  refine ⟨nolim.keeps ic.toInCall.keep, codeAny_func ?_⟩
  obtain ⟨t, ht, hq⟩ := hb cdv A out s H vs Q E p c hot zc (rm.deeper _) sat
  have inv : Inv (L2H.cxH (L2N.CX P w) P w K mg base N qual scope f cdv A out s H E p) [] (L2.start N vs) H s1 := L2H.inv_startH S pin env hlen rel ic
  refine wpAny_mono (ht.run [] s1 (L2.start N vs) H _ inv hq) (fun fl s2 z => ?_) fun _ _ z => z
  have done : ∀ {σ2 : SSt} {H2 : Hp} {v : V} {u : Value}, Inv (L2H.cxH (L2N.CX P w) P w K mg base N qual scope f cdv A out s H E p) [] σ2 H2 s2 → RelV v u → Q v H2 → CE out P w H s Q u s2 := by
    intro σ2 H2 v u J rv q
    exact ⟨v, H2, J.os, J.bare, J.base, J.hok, rv, q⟩
  cases fl with
  | next => obtain ⟨σ2, H2, J, q⟩ := z; exact done (v := V.non) (u := Value.none) J rfl q
  | ret u => obtain ⟨v, σ2, H2, J, rv, q⟩ := z; exact done J rv q
  | cont => obtain ⟨_, _, _, q⟩ := z; exact q.elim
  | brk => obtain ⟨_, _, _, q⟩ := z; exact q.elim
theorem has_hot {X : Cx} {p : Addr × Obj} {c : Nat} {A : Around} (h : L2H.Hot1 A p) (hA : X.A.handled = A.handled) (hp : p ∈ X.pn) (hz : Zc (.ref (ca c)) none p.2) : Has X ca c p.1 := by
  obtain ⟨h1, vs, h2, h3⟩ := h
  exact ⟨hA.trans h1, p.2, hp, hz, vs, h2, h3⟩
/-- a def, handed the error, that does what m does -/
theorem def_okX {x qual : Str} {params : Arguments} {body : List Stmt} {scope : Scope} {f : Addr} {fd : FuncData} {N ps : List Str} {k : Nat} {mb : Nat → Addr → MS} (F : FunD K x qual params body scope [] [] f fd) (S : FnScope N ps scope)
    (hb : ∀ (cdv : Value) (A : Around) (out : List Env) (s : Shared) (H : Hp) (E : XK) (p : Addr × Obj) (c : Nat), L2H.RoomH k (A.deeper (envOfC qual scope s.heap.objs.size f cdv)) → Has (L2H.cxH (L2N.CX P w) P w K mg base N qual scope f cdv A out s H E p) ca c p.1 →
      PSs (L2H.cxH (L2N.CX P w) P w K mg base N qual scope f cdv A out s H E p) body (tS K ca (fun c d _ H => E c d H) (mb c p.1))) :
    FnX P w K mg base ca (k + 1) f fd ps (fun c a => spM K ca ps.length (mDef N.length (mb c a))) := by
  refine fnX_of F S (fun c a vs H Q E h => h.1) fun cdv A out s H vs Q E p c hot zc hr h => ?_
  obtain ⟨hl, ρ, G, ws, r, q, h⟩ := h
  refine ⟨_, hb cdv A out s H E p c hr (has_hot hot rfl List.mem_cons_self zc), ρ, G, _, r, relS_start q, ?_⟩
  unfold mDef at h
  cases e : mb c p.1 (ws.map some ++ List.replicate (N.length - ws.length) none) G with
  | nx τ G' => rw [e] at h; exact fun ρ' H' σ' x r' s' => h ρ' H' x r' .non .non
  | rt w G' => rw [e] at h; exact fun ρ' H' v x r' q' => h ρ' H' x r' v q'
  | ex c fs τ G' => rw [e] at h; exact fun ρ' H' d σ' x r' s' ef => h ρ' H' d x r' ef
  | bk τ G' => rw [e] at h; exact h.elim
  | ct τ G' => rw [e] at h; exact h.elim
  | bad => rw [e] at h; exact h.elim
structure CallX (P : Program) (w : World) (K : PySem.W.Frag) (mg : Str → Option Value) (base : Heap) (ca : Nat → Addr) (k : Nat) (x : Str) (ps : List Str) (m : Nat → Addr → List W → GH → R W) : Prop where
  ex : ∃ (f : Addr) (fd : FuncData), mg x = some (.ref f) ∧ PySem.W.keepIn K (.ref f) = true ∧ Binds K fd ps [] ∧ FnX P w K mg base ca k f fd ps (fun c a => spM K ca ps.length (m c a))
theorem callX_mk {k : Nat} {x : Str} {ps : List Str} {m : Nat → Addr → List W → GH → R W} {f : Addr} {fd : FuncData} (hm : mg x = some (.ref f)) (kp : PySem.W.keepIn K (.ref f) = true) (b : Binds K fd ps []) (F : FnX P w K mg base ca k f fd ps (fun c a => spM K ca ps.length (m c a))) :
    CallX P w K mg base ca k x ps m := ⟨f, fd, hm, kp, b, F⟩
end
section
variable {X : Cx} {ca : Nat → Addr} {pos : Pos}
theorem run_X {pins : List (Addr × Obj)} {σ : SSt} {H : Hp} {s : Shared} {Q : VK} {us : List Value} {vs : List V} {k : Nat} {f : Addr} {fd : FuncData} {ps : List Str} {sp : Nat → Addr → Sp} {c : Nat} {a : Addr}
    (F : FnX X.prog X.w X.K X.mg X.base ca k f fd ps sp) (hr : L2H.RoomH k X.A) (hx : Has X ca c a) (hb : Binds X.K fd ps []) (inv : Inv X pins σ H s) (rel : Vals vs us) (h : sp c a vs H Q (WE wF σ)) :
    wpAny (model X.prog X.w) X.A (call (.ref f) us) (EP X pins σ Q) X.xe s := by
  obtain ⟨hh, oe, hm, hz, fs, hf, h2⟩ := hx
  have hlu : us.length = ps.length := rel.length.symm.trans (F.ln _ _ _ _ _ _ h)
  have bd := hb s us inv.kIn (by rw [List.append_nil]; exact hlu)
  rw [List.append_nil] at bd
  have pn := inv.pin (a, oe) (List.mem_append_left _ hm)
  have pok : L2H.PinOk X.stack H s (a, oe) := by
    refine ⟨pn.1, pn.2.1, fun z => ?_, pn.2.2.2.2⟩
    rcases List.mem_cons.mp (inv.stkSub a z) with z | z
    · exact pn.2.2.1 z
    · exact pn.2.2.2.1 z
  refine wpAny_call (codeAny_mono (F.go X.A X.stack s H us vs Q (WE wF σ) (a, oe) c hr ⟨hh, fs, hf, h2⟩ pok hz inv.env0 bd rel h) fun res s2 z => ?_)
  cases res with
  | error e => exact L2N.passAt (W := wF) takesN σ pins H s e s2 inv z
  | ok fl =>
    cases fl with
    | ret u => exact inv.after z
    | next => exact z.elim
    | brk => exact z.elim
    | cont => exact z.elim
theorem s_callX {x : Str} {p : Pos} {k : Nat} {ps : List Str} {m : Nat → Addr → List W → GH → R W} {e : Expr} {es : List Expr} {ma : M (List W)} {c : Nat} {a : Addr} (C : CallX X.prog X.w X.K X.mg X.base ca k x ps m) (hr : L2H.RoomH k X.A) (hx : Has X ca c a) (hg : Gl X x)
    (ha : PA X (e :: es) (tA X.K ca wF ma)) (hn : ∀ ws τ G G1, ma τ G = .ok ws G1 → (ws ++ []).length = ps.length) (hdb : (x == ("__debug__" : Str)) = false := by decide)
    (he : starEach (e :: es) X.env = (false, eval e X.env) :: starEach es X.env := by rfl) (hpl : (backTo pos (starEach es X.env)).any (·.1) = false := by rfl) :
    PE X (.Call (.Name x p) (e :: es) [] pos) (tE X.K ca wF (mCall (m c a) [] ma)) := by
  obtain ⟨f, fd, gm, kp, b, F⟩ := C.ex
  refine ⟨fun pins s σ H Q inv h => ?_⟩
  have h2 := call_in (X := X) (Wx := wF) (dvs := []) (dws := []) (n := ps.length) (m := m c a) (fun _ _ => .nil) hn h
  refine wpAny_Call_Name_kw (ld_glob inv hg gm ?_ hdb)
  refine PySem.W.callWith_K (h₀ := X.base) inv.ok.mod.kin kp (thn (ha.run pos pins s σ H _ inv h2) fun us s1 z => ?_) he hpl
  obtain ⟨vs, H1, inv1, rel, q⟩ := z
  rw [List.append_nil] at q
  exact ⟨inv1.kIn, run_X F hr hx b inv1 rel q⟩
end
theorem roomX {k j : Nat} {A : Around} (r : Room k A) (h : Option Value) (hj : j ≤ k) : L2H.RoomH j (A.mark h) := ⟨(r.mono hj).dp, (r.mono hj).un⟩
theorem hu_hot {k : Nat} {A : Around} (r : L2H.RoomH k A) : A.units + 65 < cLine := by have := r.un; omega
end Sy
set_option Elab.async false
set_option linter.all false
set_option maxRecDepth 100000
set_option maxHeartbeats 4000000
namespace Sy
open PySem PySem.Spec PyProof.Rows L2
theorem fz_script {K : PySem.W.Frag} {H : Hp} {a : Addr} {vs : List V} (hO : Only H) (h : SqL K H a vs) : FzL K H a vs := by
  rcases h with h | h
  · rcases h with h | h
    · rcases hO a with e | ⟨o, xs, e⟩ <;> (rw [h] at e; cases e)
    · exact .inl h
  · exact .inr h
theorem relWs_ints {K : PySem.W.Frag} {ca : Nat → Addr} {ρ : List Addr} {H : Hp} : ∀ ns : List Int, RelWs K ca ρ H (ns.map V.int) (ns.map W.int)
  | [] => .nil
  | n :: ns => .cons (.int n) (relWs_ints ns)
theorem RelW.frl' {K : PySem.W.Frag} {ca : Nat → Addr} {ρ : List Addr} {H : Hp} {a : Addr} {vs : List V} {ws : List W} (hs : FzL K H a vs) (h : RelWs K ca ρ H vs ws) : RelW K ca ρ H (.ref a) (.frl ws) :=
  .frl hs h.length fun i v w e1 e2 => paired_get h i v w e1 e2
/-- a def as it stands behind the top -/
structure DefAt (K : PySem.W.Frag) (x : Str) (st : Stmt) (f : Addr) : Prop where
  ex : ∃ (oc : Value) (od : Option Addr) (kV doc pm : Value) (an : Option Addr) (cdv ct : Value) (osl : Array (Option Value)),
    K.lookup f = some ⟨oc, od, .func (PySem.W.fnOf x x (defArgs st) (defBody st) (defScope st) .none kV doc pm an cdv ct), osl⟩ ∧ PySem.W.codeIn K cdv x = true ∧ PySem.W.keepIn K (.ref f) = true
theorem defAt_mk {K : PySem.W.Frag} {x : Str} {st : Stmt} {f : Addr} {oc : Value} {od an : Option Addr} {osl : Array (Option Value)} {kV doc pm cdv ct : Value} (l : K.lookup f = some ⟨oc, od, .func (PySem.W.fnOf x x (defArgs st) (defBody st) (defScope st) .none kV doc pm an cdv ct), osl⟩)
    (c : PySem.W.codeIn K cdv x = true) (k : PySem.W.keepIn K (.ref f) = true) : DefAt K x st f := ⟨_, _, _, _, _, _, _, _, _, l, c, k⟩
/-- .. with defaults, a tuple of them -/
structure DefAtD (K : PySem.W.Frag) (x : Str) (st : Stmt) (f : Addr) (dvs : List V) : Prop where
  ex : ∃ (oc : Value) (od : Option Addr) (T : Addr) (kV doc pm : Value) (an : Option Addr) (cdv ct : Value) (osl : Array (Option Value)) (o : Obj) (its : List Value) (n : Nat),
    K.lookup f = some ⟨oc, od, .func (PySem.W.fnOf x x (defArgs st) (defBody st) (defScope st) (.ref T) kV doc pm an cdv ct), osl⟩ ∧ PySem.W.codeIn K cdv x = true ∧ PySem.W.keepIn K (.ref f) = true ∧ K.lookup T = some o ∧ o.data = .seq its.toArray n ∧ Vals dvs its
theorem defAtD_mk {K : PySem.W.Frag} {x : Str} {st : Stmt} {f T : Addr} {oc : Value} {od an : Option Addr} {osl : Array (Option Value)} {kV doc pm cdv ct : Value} {o : Obj} {its : List Value} {n : Nat} {dvs : List V}
    (l : K.lookup f = some ⟨oc, od, .func (PySem.W.fnOf x x (defArgs st) (defBody st) (defScope st) (.ref T) kV doc pm an cdv ct), osl⟩)
    (c : PySem.W.codeIn K cdv x = true) (k : PySem.W.keepIn K (.ref f) = true) (lT : K.lookup T = some o) (hd : o.data = .seq its.toArray n) (hv : Vals dvs its) : DefAtD K x st f dvs := ⟨_, _, _, _, _, _, _, _, _, _, _, _, _, l, c, k, lT, hd, hv⟩
theorem DefAt.fun {K : PySem.W.Frag} {x : Str} {st : Stmt} {f : Addr} (D : DefAt K x st f) : ∃ fd, FunD K x x (defArgs st) (defBody st) (defScope st) [] [] f fd := by
  obtain ⟨oc, od, kV, doc, pm, an, cdv, ct, osl, l, c, k⟩ := D.ex
  exact ⟨_, ⟨_, _, _, _, _, _, _, _, _, _, rfl, l, c, .inl ⟨rfl, rfl⟩, .inl rfl⟩, k⟩
theorem DefAtD.fun {K : PySem.W.Frag} {x : Str} {st : Stmt} {f : Addr} {dvs : List V} (D : DefAtD K x st f dvs) (hn : dvs ≠ []) : ∃ fd, FunD K x x (defArgs st) (defBody st) (defScope st) dvs [] f fd := by
  obtain ⟨oc, od, T, kV, doc, pm, an, cdv, ct, osl, o, its, n, l, c, k, lT, hd, hv⟩ := D.ex
  exact ⟨_, ⟨_, _, _, _, _, _, _, _, _, _, rfl, l, c, .inr ⟨hn, T, o, its, n, rfl, lT, hd, hv⟩, .inl rfl⟩, k⟩
section
variable {P : Program} {w : World} {K : PySem.W.Frag} {mg : Str → Option Value} {base : Heap} {ca : Nat → Addr}
theorem callable_mk {k : Nat} {x : Str} {ps : List Str} {m : List W → GH → R W} {f : Addr} {fd : FuncData} (hm : mg x = some (.ref f)) (kp : PySem.W.keepIn K (.ref f) = true) (b : Binds K fd ps []) (F : FnOk P w K mg base (L2N.CX P w) k f fd ps (spM K ca ps.length m)) :
    Callable P w K mg base ca k x ps [] m := ⟨f, fd, [], [], hm, kp, b, .nil, fun _ _ => .nil, F⟩
theorem callable_mkD {k : Nat} {x : Str} {ps : List Str} {m : List W → GH → R W} {f : Addr} {fd : FuncData} {dvs : List V} {dws : List W} (hm : mg x = some (.ref f)) (kp : PySem.W.keepIn K (.ref f) = true) (b : ∃ ds, Vals dvs ds ∧ Binds K fd ps ds) (hw : ∀ ρ H, RelWs K ca ρ H dvs dws) (F : FnOk P w K mg base (L2N.CX P w) k f fd ps (spM K ca ps.length m)) :
    Callable P w K mg base ca k x ps dws m := by
  obtain ⟨ds, hv, b⟩ := b
  exact ⟨f, fd, dvs, ds, hm, kp, b, hv, hw, F⟩
/-- all parameters written, a def with defaults -/
theorem bindsFull {x qual : Str} {params : Arguments} {body : List Stmt} {scope : Scope} {dvs : List V} {f : Addr} {fd : FuncData} {ps : List Str} (F : FunD K x qual params body scope dvs [] f fd)
    (h : ∀ (dV kV doc pm : Value) (an : Option Addr) (cdv ct : Value) (us : List Value), us.length = ps.length → bindArgs (PySem.W.fnOf x qual params body scope dV kV doc pm an cdv ct) ⟨us, []⟩ = pure (ps.zip us)) : Binds K fd ps [] := by
  obtain ⟨oc, od, dV, kV, doc, pm, an, cdv, ct, osl, rfl, _, _, _, _⟩ := F.ex
  exact .all (h dV kV doc pm an cdv ct)
theorem konW_int {x : Str} {i : Int} {t : Tok} (h : mg x = some (.int i t)) : KonW K mg ca x (.int i) := ⟨_, .int i, h, ⟨t, rfl⟩, fun _ _ => .int i⟩
theorem konW_str {x z : Str} {t : Tok} (h : mg x = some (.str z t)) : KonW K mg ca x (.str z) := ⟨_, .str z, h, ⟨t, rfl⟩, fun _ _ => .str z⟩
end
/-- the end of a law -/
theorem law_end {l : PySem.W.OpenLaw} {k : Nat} {q : Program} {loose : List Str} {XP : (Str → Option Value) → Heap → Prop} {YP : World → Heap → Prop} {d : DefRec} {K : Params → PySem.W.Frag} {x : Str} {ca : Nat → Addr} {m : List W → GH → R W}
    (hn : l.most = some 63) (hdf : d.params.defaults = []) (hr : Room k callerA) (hY : ∀ (w : World) (h : Heap), YP w h → (K w.params).In h)
    (F : ∀ (w : World) (mg : Str → Option Value) (fa : Addr) (h : Heap), (K w.params).In h → h.Ns mainGlobals mg → mg d.name = some (.ref fa) →
      ∃ fd : FuncData, (∀ (s : Shared) (u : Value), BindsTo s fd ⟨[u], []⟩ [(x, u)]) ∧ ∀ base : Heap, (K w.params).In base → base.Ns mainGlobals mg → FnOk l.prog w (K w.params) mg base (L2N.CX l.prog w) k fa fd [x] (spM (K w.params) ca 1 m))
    (hm : ∀ ns : List Int, ns.length ≤ 63 → (∀ z ∈ ns, Builtin.Int.intBits z ≤ 1048576) → ∃ G, m [.frl (ns.map W.int)] [] = .ok (.bl true) G) :
    PySem.W.WalkO q loose XP YP l.row.toRowW d [] (fun f vs => PySem.call f vs) :=
  L2.walk_ofB (n := 63) (CX := fun w => L2N.CX l.prog w) (sp := fun w => spM (K w.params) ca 1 m) hn (by rw [sizeLine_eq]; decide) hdf hr hY F
    (fun w H a ns hl hb hO hS => by
      obtain ⟨G, e⟩ := hm ns hl hb
      refine ⟨rfl, [], [], [.frl (ns.map W.int)], ⟨rfl, List.nodup_nil, fun n a o h => by simp at h⟩, .cons (RelW.frl' (fz_script hO hS) (relWs_ints ns)) .nil, ?_⟩
      rw [e]
      exact fun ρ' H' _ _ v q => by cases q; rfl)
    fun w H s e s' h => by obtain ⟨_, _, _, _, _, _, _, _, _, _, _, _, z⟩ := h; exact z
theorem konW_intE {K : PySem.W.Frag} {mg : Str → Option Value} {ca : Nat → Addr} {x : Str} {i : Int} (h : ∃ t, mg x = some (.int i t)) : KonW K mg ca x (.int i) := by
  obtain ⟨t, h⟩ := h
  exact konW_int h
theorem konW_strE {K : PySem.W.Frag} {mg : Str → Option Value} {ca : Nat → Addr} {x z : Str} (h : ∃ t, mg x = some (.str z t)) : KonW K mg ca x (.str z) := by
  obtain ⟨t, h⟩ := h
  exact konW_str h
/-- the end of a law whose head tells facts -/
theorem law_endE {l : PySem.W.OpenLaw} {k hn' : Nat} {q : Program} {loose : List Str} {XP : (Str → Option Value) → Heap → Prop} {fa : List He.Fa} {fn : List He.DefD} {d : DefRec} {x : Str} {ca : PySem.W.Frag → Nat → Addr} {m : List W → GH → R W}
    (hn : l.most = some 63) (hdf : d.params.defaults = []) (hr : Room k callerA)
    (F : ∀ (w : World) (mg : Str → Option Value) (fv : Addr) (h : Heap) (K : PySem.W.Frag), K.In h → He.SaysD fa fn K → h.Ns mainGlobals mg → mg d.name = some (.ref fv) →
      ∃ fd : FuncData, (∀ (s : Shared) (u : Value), BindsTo s fd ⟨[u], []⟩ [(x, u)]) ∧ ∀ base : Heap, K.In base → base.Ns mainGlobals mg → FnOk l.prog w K mg base (L2N.CX l.prog w) k fv fd [x] (spM K (ca K) 1 m))
    (hm : ∀ ns : List Int, ns.length ≤ 63 → (∀ z ∈ ns, Builtin.Int.intBits z ≤ 1048576) → ∃ G, m [.frl (ns.map W.int)] [] = .ok (.bl true) G) :
    PySem.W.WalkO q loose XP (He.hookD hn' fa fn).says l.row.toRowW d [] (fun f vs => PySem.call f vs) := by
  refine Att.attach_callB hn hdf fun w s₀ s₁ mg mb fv o pm cd doc a vs ns G Y ho hd hcd hmg hobj hints hlen hbits hg => ?_
  obtain ⟨K, KX, c⟩ := Y
  obtain ⟨fd, hb, hF⟩ := F w mg fv _ K KX c G.T.g hmg
  refine law_call KX G.T.g G.T.b G.T.builtins G.T.nolimit hg hobj hints (Nat.le_trans hlen (by rw [sizeLine_eq]; decide)) hr hF hb (fun H hO hS => ?_) fun H e s' h => ?_
  · obtain ⟨G, e⟩ := hm ns hlen hbits
    refine ⟨rfl, [], [], [.frl (ns.map W.int)], ⟨rfl, List.nodup_nil, fun n a o h => by simp at h⟩, .cons (RelW.frl' (fz_script hO hS) (relWs_ints ns)) .nil, ?_⟩
    rw [e]
    exact fun ρ' H' _ _ v q => by cases q; rfl
  · obtain ⟨_, _, _, _, _, _, _, _, _, _, _, _, z⟩ := h
    exact z
/-! facts of the top, and more of them: functions of the written part -/
abbrev AlX : Type := He.AlD × Bool
def obsX (fa : List He.Fa) (fn : List He.DefD) (fb : List (PySem.W.Frag → Bool)) (K : PySem.W.Frag) : AlX := (He.obsD fa fn K, fb.all fun f => f K)
def obsXG (n : Nat) (fa : List He.Fa) (fn : List He.DefD) (fb : List (PySem.W.Frag → Bool)) (g : Addr → Option Obj) : AlX := obsX fa fn fb (He.frG g (He.asD g n))
def hookX (n : Nat) (fa : List He.Fa) (fn : List He.DefD) (fb : List (PySem.W.Frag → Bool)) : PySem.W.Hook where
  α := AlX
  obs := fun s => obsXG n fa fn fb s.heap.get?
  val := fun _ => (He.valD fn, true)
  says := fun _ h => ∃ K : PySem.W.Frag, K.In h ∧ He.SaysD fa fn K ∧ (fb.all fun f => f K) = true
  of := fun _ s e => ⟨He.frG s.heap.get? (He.asD s.heap.get? n), He.frG_in, congrArg (fun z : AlX => z.1) e, congrArg (fun z : AlX => z.2) e⟩
  keeps := fun _ _ _ ⟨K, hK, c⟩ k => ⟨K, PySem.W.Frag.In.keeps hK k, c⟩
theorem obsXG_eq {n : Nat} {fa : List He.Fa} {fn : List He.DefD} {fb : List (PySem.W.Frag → Bool)} {g : Addr → Option Obj} {s : Shared} (h : ∀ a, g a = s.heap.get? a) : obsXG n fa fn fb g = (hookX n fa fn fb).obs s := by
  have e : g = s.heap.get? := funext h
  rw [e] <;> rfl
theorem fact_of {fb : List (PySem.W.Frag → Bool)} {K : PySem.W.Frag} (c : (fb.all fun f => f K) = true) (i : Nat) {f : PySem.W.Frag → Bool} (h : fb[i]? = some f := by rfl) : f K = true :=
  List.all_eq_true.mp c f (List.mem_of_getElem? h)
def caN (names : List Str) (K : PySem.W.Frag) (n : Nat) : Addr := He.ga K (names.getD n "")
def excCB (K : PySem.W.Frag) (D : Addr) : Bool :=
  He.eqO (PySem.W.findIn K (.ref D) "__getattribute__") (some (some (.builtin "BaseException.__getattribute__"))) && (He.eqO (PySem.W.findIn K (.ref D) "__getattr__") (some none) && (decide (PySem.W.subIn K (.ref D) (.type "BaseException") = some true) && (PySem.W.hasDictIn K D &&
  (He.eqO (PySem.W.findIn K (.ref D) "__class__") (some (some (.builtin "object.__class__"))) && (He.eqO (PySem.W.specialIn K (.builtin "object.__class__") "__get__") (some (some (.builtin "getset_descriptor.__get__"))) && (decide (PySem.W.takesIn K (.builtin "object.__class__") = some true) && decide (PySem.W.mroIn K D (.type "object") = some true)))))))
theorem excCB_ok {K : PySem.W.Frag} {D : Addr} (h : excCB K D = true) : ExcC K D := by
  unfold excCB at h
  simp only [Bool.and_eq_true] at h
  obtain ⟨h1, h2, h3, h4, h5, h6, h7, h8⟩ := h
  exact ⟨He.eqO_ok h1, He.eqO_ok h2, of_decide_eq_true h3, h4, He.eqO_ok h5, He.eqO_ok h6, of_decide_eq_true h7, of_decide_eq_true h8⟩
def itF (names : List Str) (it : ITab) (K : PySem.W.Frag) : Bool := it.all fun e => decide (PySem.W.kitOne K (.ref (caN names K e.1)) (e.2.1.val (caN names K)) = some e.2.2) && excCB K (caN names K e.1)
def xtF (names : List Str) (xt : XTab) (K : PySem.W.Frag) : Bool := xt.all fun e => decide (PySem.W.exmOne K (.ref (caN names K e.1)) (.ref (caN names K e.2.1)) = some e.2.2)
theorem exs_of {names : List Str} {it : ITab} {xt : XTab} {K : PySem.W.Frag} (h1 : itF names it K = true) (h2 : xtF names xt K = true) : Exs K (caN names K) it xt := by
  refine ⟨fun e he => ?_, fun e he => ?_⟩
  · have z := List.all_eq_true.mp h1 e he
    rw [Bool.and_eq_true] at z
    exact ⟨of_decide_eq_true z.1, excCB_ok z.2⟩
  · exact of_decide_eq_true (List.all_eq_true.mp h2 e he)
theorem exW_of {names : List Str} {K : PySem.W.Frag} {h : Heap} {mg : Str → Option Value} {x : Str} {c : Nat} (X : K.In h) (G : h.Ns mainGlobals mg) (hx : names.getD c "" = x) (g : (He.Fa.glo x).ok K = true) (e : (He.Fa.exc x).ok K = true) : ExW K mg (caN names K) x c := by
  obtain ⟨h1, h2, h3, h4⟩ := He.exc_ok e
  subst hx
  exact ⟨He.glo_ok X G g, h1, h2, h3, h4⟩
theorem cls_glo {names : List Str} {K : PySem.W.Frag} {h : Heap} {mg : Str → Option Value} {x : Str} {c : Nat} (X : K.In h) (G : h.Ns mainGlobals mg) (hx : names.getD c "" = x) (g : (He.Fa.glo x).ok K = true) : mg x = some (.ref (caN names K c)) := by
  subst hx
  exact He.glo_ok X G g
theorem law_endX {l : PySem.W.OpenLaw} {k hn' : Nat} {q : Program} {loose : List Str} {XP : (Str → Option Value) → Heap → Prop} {fa : List He.Fa} {fn : List He.DefD} {fb : List (PySem.W.Frag → Bool)} {d : DefRec} {x : Str} {ca : PySem.W.Frag → Nat → Addr} {m : List W → GH → R W}
    (hn : l.most = some 63) (hdf : d.params.defaults = []) (hr : Room k callerA)
    (F : ∀ (w : World) (mg : Str → Option Value) (fv : Addr) (h : Heap) (K : PySem.W.Frag), K.In h → He.SaysD fa fn K → (fb.all fun f => f K) = true → h.Ns mainGlobals mg → mg d.name = some (.ref fv) →
      ∃ fd : FuncData, (∀ (s : Shared) (u : Value), BindsTo s fd ⟨[u], []⟩ [(x, u)]) ∧ ∀ base : Heap, K.In base → base.Ns mainGlobals mg → FnOk l.prog w K mg base (L2N.CX l.prog w) k fv fd [x] (spM K (ca K) 1 m))
    (hm : ∀ ns : List Int, ns.length ≤ 63 → (∀ z ∈ ns, Builtin.Int.intBits z ≤ 1048576) → ∃ G, m [.frl (ns.map W.int)] [] = .ok (.bl true) G) :
    PySem.W.WalkO q loose XP (hookX hn' fa fn fb).says l.row.toRowW d [] (fun f vs => PySem.call f vs) := by
  refine Att.attach_callB hn hdf fun w s₀ s₁ mg mb fv o pm cd doc a vs ns G Y ho hd hcd hmg hobj hints hlen hbits hg => ?_
  obtain ⟨K, KX, c, cb⟩ := Y
  obtain ⟨fd, hb, hF⟩ := F w mg fv _ K KX c cb G.T.g hmg
  refine law_call KX G.T.g G.T.b G.T.builtins G.T.nolimit hg hobj hints (Nat.le_trans hlen (by rw [sizeLine_eq]; decide)) hr hF hb (fun H hO hS => ?_) fun H e s' h => ?_
  · obtain ⟨G, e⟩ := hm ns hlen hbits
    refine ⟨rfl, [], [], [.frl (ns.map W.int)], ⟨rfl, List.nodup_nil, fun n a o h => by simp at h⟩, .cons (RelW.frl' (fz_script hO hS) (relWs_ints ns)) .nil, ?_⟩
    rw [e]
    exact fun ρ' H' _ _ v q => by cases q; rfl
  · obtain ⟨_, _, _, _, _, _, _, _, _, _, _, _, z⟩ := h
    exact z
end Sy
set_option Elab.async false
set_option linter.all false
set_option maxRecDepth 100000
set_option maxHeartbeats 4000000
namespace Sy
open PySem PySem.Spec PyProof.Rows L2

/-! the computations as equations -/
def asO : Option (Option W) → GH → R T
  | some (some w), G => .ok (.val w) G
  | _, _ => .bad
@[simp] theorem asO_ok (w : W) (G : GH) : asO (some (some w)) G = .ok (.val w) G := (rfl)
section
variable {τ : Sl} {G : GH}
@[simp] theorem mVar_at (i : Nat) : mVar i τ G = asO τ[i]? G := by
  unfold mVar asO
  cases τ[i]? with
  | none => rfl
  | some o => cases o <;> rfl
@[simp] theorem mC_at (w : W) : mC w τ G = .ok (.val w) G := (rfl)
@[simp] theorem mBin_at (f : T → T → GH → R T) (a b : M T) : mBin f a b τ G = (a τ G).bind fun x G1 => (b τ G1).bind fun y G2 => f x y G2 := (rfl)
@[simp] theorem mUn_at (f : T → GH → R T) (a : M T) : mUn f a τ G = (a τ G).bind f := (rfl)
@[simp] theorem force_val (w : W) : force (.val w) G = .ok w G := (rfl)
@[simp] theorem force_tmp (ws : List W) : force (.tmp ws) G = .ok (.loc G.length) (G ++ [.lst ws]) := (rfl)
@[simp] theorem mF_at (a : M T) : mF a τ G = (a τ G).bind force := (rfl)
@[simp] theorem mNil_at : mNil τ G = .ok [] G := (rfl)
@[simp] theorem mCons_at (a : M T) (r : M (List W)) : mCons a r τ G = ((a τ G).bind force).bind fun w G1 => (r τ G1).bind fun ws G2 => .ok (w :: ws) G2 := (rfl)
@[simp] theorem mLst_at (a : M (List W)) : mLst a τ G = (a τ G).bind fun ws G1 => if ws.length ≤ 16777216 then .ok (.tmp ws) G1 else .bad := (rfl)
@[simp] theorem mTup_at (a : M (List W)) : mTup a τ G = (a τ G).bind fun ws G1 => if ws.length ≤ 16777216 then .ok (.val (.tup ws)) G1 else .bad := (rfl)
@[simp] theorem asB_bl (b : Bool) : asB (.val (.bl b)) G = .ok b G := (rfl)
@[simp] theorem mB_at (a : M T) : mB a τ G = (a τ G).bind asB := (rfl)
@[simp] theorem mOfB_at (a : M Bool) : mOfB a τ G = (a τ G).bind fun b G1 => .ok (.val (.bl b)) G1 := (rfl)
@[simp] theorem mAnd_at (a b : M Bool) : mAnd a b τ G = (a τ G).bind fun x G1 => if x then b τ G1 else .ok false G1 := (rfl)
@[simp] theorem mOr_at (a b : M Bool) : mOr a b τ G = (a τ G).bind fun x G1 => if x then .ok true G1 else b τ G1 := (rfl)
@[simp] theorem mNot_at (a : M Bool) : mNot a τ G = (a τ G).bind fun x G1 => .ok (!x) G1 := (rfl)
@[simp] theorem mIf_at (c : M Bool) (a b : M T) : mIf c a b τ G = (c τ G).bind fun x G1 => if x then a τ G1 else b τ G1 := (rfl)
@[simp] theorem mAndV_at (a b : M T) : mAndV a b τ G = (a τ G).bind fun x G1 => (asB x G1).bind fun c G2 => if c then b τ G2 else .ok (.val (.bl false)) G2 := (rfl)
@[simp] theorem mOrV_at (a b : M T) : mOrV a b τ G = (a τ G).bind fun x G1 => (asB x G1).bind fun c G2 => if c then .ok (.val (.bl true)) G2 else b τ G2 := (rfl)
@[simp] theorem mNotV_at (a : M T) : mNotV a τ G = (a τ G).bind fun x G1 => (asB x G1).bind fun c G2 => .ok (.val (.bl (!c))) G2 := (rfl)
@[simp] theorem mCall_at (m : List W → GH → R W) (dws : List W) (ma : M (List W)) : mCall m dws ma τ G = (ma τ G).bind fun ws G1 => (m (ws ++ dws) G1).bind fun w G2 => .ok (.val w) G2 := (rfl)
@[simp] theorem mNilT_at : mNilT τ G = .ok [] G := (rfl)
@[simp] theorem mConsT_at (a : M T) (r : M (List T)) : mConsT a r τ G = (a τ G).bind fun t G1 => (r τ G1).bind fun ts G2 => .ok (t :: ts) G2 := (rfl)
@[simp] theorem mBi_at (f : List T → GH → R T) (ma : M (List T)) : mBi f ma τ G = (ma τ G).bind f := (rfl)
@[simp] theorem mMt_at (ty : T → GH → Bool) (f : T → List T → GH → R T) (mo : M T) (ma : M (List T)) : mMt ty f mo ma τ G = (mo τ G).bind fun x G1 => if ty x G1 then (ma τ G1).bind fun ts G2 => f x ts G2 else .bad := (rfl)
@[simp] theorem mMtF_at (ty : T → GH → Bool) (f : T → List W → GH → R T) (mo : M T) (ma : M (List W)) : mMtF ty f mo ma τ G = (mo τ G).bind fun x G1 => if ty x G1 then (ma τ G1).bind fun ts G2 => f x ts G2 else .bad := (rfl)
@[simp] theorem mTru_at (m : M T) : mTru m τ G = (m τ G).bind truT := (rfl)
@[simp] theorem mChain_at (f g : T → T → GH → R T) (a b c : M T) : mChain f g a b c τ G = (a τ G).bind fun x G1 => (b τ G1).bind fun y G2 => (f x y G2).bind fun z G3 => (asB z G3).bind fun k G4 => if k then (c τ G4).bind fun u G5 => g y u G5 else .ok (.val (.bl false)) G4 := (rfl)
@[simp] theorem mNoP_at : mNoP τ G = .ok none G := (rfl)
def asI : T → GH → R (Option Int)
  | .val (.int i), G => .ok (some i) G
  | _, _ => .bad
@[simp] theorem asI_int (i : Int) : asI (.val (.int i)) G = .ok (some i) G := (rfl)
@[simp] theorem mP_at (m : M T) : mP m τ G = (m τ G).bind asI := by
  unfold mP
  congr 1
  funext t G1
  cases t with
  | tmp ws => rfl
  | val w => cases w <;> rfl
@[simp] theorem mSl_at (m : M T) (l u : M (Option Int)) : mSl m l u τ G = (m τ G).bind fun t G1 => (l τ G1).bind fun lo G2 => (u τ G2).bind fun hi G3 => fSl t lo hi G3 := (rfl)
@[simp] theorem sNext_at : sNext τ G = .nx τ G := (rfl)
@[simp] theorem sSeq_at (a b : MS) : sSeq a b τ G = (a τ G).andThen b := (rfl)
@[simp] theorem sDrop_at (m : M T) : sDrop m τ G = (m τ G).toS τ fun _ G1 => .nx τ G1 := (rfl)
@[simp] theorem sRet_at (m : M T) : sRet m τ G = (mF m τ G).toS τ fun w G1 => .rt w G1 := (rfl)
@[simp] theorem sRetN_at : sRetN τ G = .rt .non G := (rfl)
@[simp] theorem sBrk_at : sBrk τ G = .bk τ G := (rfl)
@[simp] theorem sCt_at : sCt τ G = .ct τ G := (rfl)
@[simp] theorem sIf_at (c : M Bool) (a b : MS) : sIf c a b τ G = (c τ G).toS τ fun x G1 => if x then a τ G1 else b τ G1 := (rfl)
@[simp] theorem sSet_at (i : Nat) (m : M T) : sSet i m τ G = (mF m τ G).toS τ fun w G1 => .nx (τ.set i (some w)) G1 := (rfl)
@[simp] theorem sAug_at (i : Nat) (f : T → T → GH → R T) (m : M T) : sAug i f m τ G = (mVar i τ G).toS τ fun x G0 => (m τ G0).toS τ fun y G1 => ((f x y G1).bind force).toS τ fun w G2 => .nx (τ.set i (some w)) G2 := (rfl)
theorem sFor_at (m : M (List W × Src)) (g : MG) (b : MS) : sFor m g b τ G = (m τ G).toS τ fun p G1 => forL p.2 g b p.1 τ G1 := (rfl)
@[simp] theorem gN_at (i : Nat) (w : W) : gN i w τ = some (τ.set i (some w)) := (rfl)
@[simp] theorem gE_at : gE [] τ = some τ := (rfl)
@[simp] theorem gC_at (g : MG) (gs : List W → Sl → Option Sl) (w : W) (ws : List W) : gC g gs (w :: ws) τ = (g w τ).bind (gs ws) := (rfl)
@[simp] theorem gT_at (gs : List W → Sl → Option Sl) (ws : List W) : gT gs (.tup ws) τ = gs ws τ := (rfl)
def asG : Option Sl → GH → RS
  | some τ, G => .nx τ G
  | none, _ => .bad
@[simp] theorem asG_some : asG (some τ) G = .nx τ G := (rfl)
@[simp] theorem sAsg_at (g : MG) (m : M T) : sAsg g m τ G = (mF m τ G).toS τ fun w G1 => asG (g w τ) G1 := by
  unfold sAsg
  congr 1
  funext w G1
  unfold asG
  cases g w τ <;> rfl
def asTwo (τ : Sl) (i j : Nat) : List W → GH → RS
  | [w, u], G => .nx ((τ.set i (some w)).set j (some u)) G
  | _, _ => .bad
@[simp] theorem asTwo_at (i j : Nat) (w u : W) : asTwo τ i j [w, u] G = .nx ((τ.set i (some w)).set j (some u)) G := (rfl)
@[simp] theorem sPar_at (i j : Nat) (m : M (List W)) : sPar i j m τ G = (m τ G).toS τ (asTwo τ i j) := by
  unfold sPar
  congr 1
  funext ws G1
  rcases ws with _ | ⟨a, _ | ⟨b, _ | ⟨c, r⟩⟩⟩ <;> rfl
theorem miR_at (m : M (List W)) : miR m τ G = (m τ G).bind iterR := (rfl)
theorem miR2_at (m : M (List W)) : miR2 m τ G = (m τ G).bind iterR2 := (rfl)
theorem miA_at (m : M T) : miA m τ G = (m τ G).bind iterA := (rfl)
theorem miB_at (f : List T → GH → R (List W × Src)) (m : M (List T)) : miB f m τ G = (m τ G).bind f := (rfl)
def fin : RS → R W
  | .nx _ G' => .ok .non G'
  | .rt w G' => .ok w G'
  | .ex c fs _ G' => .ex c fs G'
  | _ => .bad
@[simp] theorem fin_nx : fin (.nx τ G) = .ok .non G := (rfl)
@[simp] theorem fin_rt (w : W) : fin (.rt w G) = .ok w G := (rfl)
@[simp] theorem fin_ex (c : Nat) (fs : List (Str × W)) : fin (.ex c fs τ G) = .ex c fs G := (rfl)
theorem mDef_fin (n : Nat) (b : MS) (ws : List W) : mDef n b ws G = fin (b (ws.map some ++ List.replicate (n - ws.length) none) G) := by
  unfold mDef fin
  cases b (ws.map some ++ List.replicate (n - ws.length) none) G <;> rfl
/-- a def at its arguments: what its body does from the slots -/
theorem mDef_at {n : Nat} {b : MS} {ws : List W} (τ : Sl) {r : RS} (hτ : ws.map some ++ List.replicate (n - ws.length) none = τ) (h : b τ G = r) : mDef n b ws G = fin r := by
  rw [mDef_fin, hτ, h]
theorem mDef_ok {n : Nat} {b : MS} {ws : List W} (τ : Sl) {w : W} {G' : GH} (h : b τ G = .rt w G') (hτ : ws.map some ++ List.replicate (n - ws.length) none = τ := by rfl) : mDef n b ws G = .ok w G' := by
  rw [mDef_fin, hτ, h]; rfl
end

/-! operations -/
section
variable {G : GH}
@[simp] theorem fAdd_int (i j : Int) : fAdd (.val (.int i)) (.val (.int j)) G = .ok (.val (.int (i + j))) G := (rfl)
@[simp] theorem fAugAdd_int (i j : Int) : fAugAdd (.val (.int i)) (.val (.int j)) G = .ok (.val (.int (i + j))) G := (rfl)
@[simp] theorem fSub_int (i j : Int) : fSub (.val (.int i)) (.val (.int j)) G = .ok (.val (.int (i - j))) G := (rfl)
@[simp] theorem fAnd_int (i j : Int) : fAnd (.val (.int i)) (.val (.int j)) G = .ok (.val (.int (Builtin.bitAnd i j))) G := (rfl)
@[simp] theorem fOr_int (i j : Int) : fOr (.val (.int i)) (.val (.int j)) G = .ok (.val (.int (Builtin.bitOr i j))) G := (rfl)
@[simp] theorem fXor_int (i j : Int) : fXor (.val (.int i)) (.val (.int j)) G = .ok (.val (.int (Builtin.bitXor i j))) G := (rfl)
@[simp] theorem fLt_int (i j : Int) : fLt (.val (.int i)) (.val (.int j)) G = .ok (.val (.bl (decide (i < j)))) G := (rfl)
@[simp] theorem fLe_int (i j : Int) : fLe (.val (.int i)) (.val (.int j)) G = .ok (.val (.bl (decide (i ≤ j)))) G := (rfl)
@[simp] theorem fGt_int (i j : Int) : fGt (.val (.int i)) (.val (.int j)) G = .ok (.val (.bl (decide (j < i)))) G := (rfl)
@[simp] theorem fGe_int (i j : Int) : fGe (.val (.int i)) (.val (.int j)) G = .ok (.val (.bl (decide (j ≤ i)))) G := (rfl)
@[simp] theorem fNeg_int (i : Int) : fNeg (.val (.int i)) G = .ok (.val (.int (-i))) G := (rfl)
theorem fI2_ok {c : Int → Int → Bool} {g : Int → Int → Int} {i j : Int} (h : c i j = true) : fI2 c g (.val (.int i)) (.val (.int j)) G = .ok (.val (.int (g i j))) G := by
  unfold fI2
  dsimp only
  rw [if_pos h]
theorem fMul_int {i j : Int} (h : mulOk i j = true) : fMul (.val (.int i)) (.val (.int j)) G = .ok (.val (.int (i * j))) G := by
  unfold fMul
  dsimp only
  rw [if_pos h]
theorem mulOk_of {i j : Int} {a b : Nat} (ha : Builtin.Int.intBits i ≤ a) (hb : Builtin.Int.intBits j ≤ b) (h : a + b ≤ 134217728) : mulOk i j = true := by
  unfold mulOk
  exact decide_eq_true (by omega)
theorem fFdiv_int {i j : Int} (h : 0 < j) (hl : j.natAbs.log2 < 9000) : fFdiv (.val (.int i)) (.val (.int j)) G = .ok (.val (.int (i / j))) G :=
  fI2_ok (by simp only [decide_eq_true h, decide_eq_true hl, Bool.and_self])
theorem fMod_int {i j : Int} (h : 0 < j) : fMod (.val (.int i)) (.val (.int j)) G = .ok (.val (.int (i % j))) G := fI2_ok (decide_eq_true h)
theorem fShr_int {i j : Int} (h : 0 ≤ j) : fShr (.val (.int i)) (.val (.int j)) G = .ok (.val (.int (i / 2 ^ j.toNat))) G := fI2_ok (decide_eq_true h)
theorem fShl_int {i j : Int} (h : 0 ≤ j) (hl : (Builtin.Int.intBits i : Int) + j ≤ 2 ^ 27) : fShl (.val (.int i)) (.val (.int j)) G = .ok (.val (.int (i * 2 ^ j.toNat))) G :=
  fI2_ok (by simp only [decide_eq_true h, decide_eq_true hl, Bool.and_self])
theorem fEq_data {x y : T} {d e : PyData} (hx : toDT G x = some d) (hy : toDT G y = some e) : fEq x y G = .ok (.val (.bl (PyData.eqv d e))) G := by
  unfold fEq; rw [hx, hy]
theorem fNe_data {x y : T} {d e : PyData} (hx : toDT G x = some d) (hy : toDT G y = some e) : fNe x y G = .ok (.val (.bl (!PyData.eqv d e))) G := by
  unfold fNe; rw [hx, hy]
@[simp] theorem fEq_int (i j : Int) : fEq (.val (.int i)) (.val (.int j)) G = .ok (.val (.bl (decide (i = j)))) G := fEq_data (d := .int i) (e := .int j) rfl rfl
@[simp] theorem fNe_int (i j : Int) : fNe (.val (.int i)) (.val (.int j)) G = .ok (.val (.bl (!decide (i = j)))) G := fNe_data (d := .int i) (e := .int j) rfl rfl
@[simp] theorem truT_bl (b : Bool) : truT (.val (.bl b)) G = .ok b G := (rfl)
@[simp] theorem truT_int (i : Int) : truT (.val (.int i)) G = .ok (i != 0) G := (rfl)
@[simp] theorem truT_non : truT (.val .non) G = .ok false G := (rfl)
@[simp] theorem truT_tmp (ws : List W) : truT (.tmp ws) G = .ok (!ws.isEmpty) G := (rfl)
@[simp] theorem truT_tup (ws : List W) : truT (.val (.tup ws)) G = .ok (!ws.isEmpty) G := (rfl)
@[simp] theorem iterA_tup (ws : List W) : iterA (.val (.tup ws)) G = .ok (ws, []) G := (rfl)
@[simp] theorem iterA_tmp (ws : List W) : iterA (.tmp ws) G = .ok (ws, []) G := (rfl)
@[simp] theorem iterA_frl (ws : List W) : iterA (.val (.frl ws)) G = .ok (ws, []) G := (rfl)
theorem iterA_loc {n : Nat} {ws : List W} (h : rdw G (.loc n) = some ws) : iterA (.val (.loc n)) G = .ok (ws, [(n, ws)]) G := by
  unfold iterA
  dsimp only
  rw [h]
theorem in62_of {i : Int} (h1 : -4611686018427387904 ≤ i) (h2 : i < 4611686018427387904) : in62 i = true := by
  unfold in62
  rw [show (2 : Int) ^ 62 = 4611686018427387904 from rfl, decide_eq_true h1, decide_eq_true h2]; rfl
theorem iterR_ok {j : Int} (h : in62 j = true) : iterR [.int j] G = .ok (rangeW 0 j.toNat, []) G := by
  unfold iterR
  dsimp only
  rw [if_pos h]
theorem iterR2_ok {i j : Int} (h : in62 i = true) (h2 : in62 j = true) : iterR2 [.int i, .int j] G = .ok (rangeW i (j - i).toNat, []) G := by
  unfold iterR2
  dsimp only
  rw [h, h2]; rfl
@[simp] theorem rangeW_len (lo : Int) (n : Nat) : (rangeW lo n).length = n := by simp [rangeW]
theorem rangeW_get {lo : Int} {n i : Nat} {w : W} (h : (rangeW lo n)[i]? = some w) : i < n ∧ w = .int (lo + i) := by
  have hl : i < n := by
    have := (List.getElem?_eq_some_iff.mp h).1
    simpa using this
  refine ⟨hl, ?_⟩
  unfold rangeW at h
  rw [List.getElem?_map, List.getElem?_range hl] at h
  simpa using h.symm
/-! what stands on top of a heap -/
@[simp] theorem get_top0 (xs : List GO) : (G ++ xs)[G.length]? = xs[0]? := by
  rw [List.getElem?_append_right (Nat.le_refl _), Nat.sub_self]
@[simp] theorem get_topk (xs : List GO) (k : Nat) : (G ++ xs)[G.length + k]? = xs[k]? := by
  rw [List.getElem?_append_right (Nat.le_add_right _ _), Nat.add_sub_cancel_left]
@[simp] theorem set_top0 (xs : List GO) (o : GO) : (G ++ xs).set G.length o = G ++ xs.set 0 o := by
  rw [List.set_append_right _ _ (Nat.le_refl _), Nat.sub_self]
@[simp] theorem set_topk (xs : List GO) (k : Nat) (o : GO) : (G ++ xs).set (G.length + k) o = G ++ xs.set k o := by
  rw [List.set_append_right _ _ (Nat.le_add_right _ _), Nat.add_sub_cancel_left]
@[simp] theorem rd_lst (ws : List W) : GO.rd (.lst ws) = some ws := (rfl)
@[simp] theorem wr_lst (ws : List W) : GO.wr (.lst ws) = some ws := (rfl)
@[simp] theorem rdw_loc (n : Nat) : rdw G (.loc n) = G[n]?.bind GO.rd := (rfl)
@[simp] theorem rdw_frl (ws : List W) : rdw G (.frl ws) = some ws := (rfl)
@[simp] theorem wrw_loc (n : Nat) : wrw G (.loc n) = G[n]?.bind GO.wr := (rfl)
@[simp] theorem rdl_tmp (ws : List W) : rdl (.tmp ws) G = some ws := (rfl)
@[simp] theorem rdl_val (w : W) : rdl (.val w) G = rdw G w := (rfl)
@[simp] theorem wrl_tmp (ws : List W) : wrl (.tmp ws) G = some ws := (rfl)
@[simp] theorem wrl_val (w : W) : wrl (.val w) G = wrw G w := (rfl)
@[simp] theorem lstAt_loc (n : Nat) : lstAt (.val (.loc n)) G = (G[n]?.bind GO.wr).map fun ws => (n, ws) := (rfl)
theorem fApp_ok {n : Nat} {us : List W} {w : W} (h : G[n]? = some (.lst us)) (hl : us.length < 16777216) : fApp (.val (.loc n)) [w] G = .ok (.val .non) (G.set n (.lst (us ++ [w]))) := by
  unfold fApp
  simp [h, hl]
theorem isLst_ok {n : Nat} {us : List W} (h : G[n]? = some (.lst us)) : isLst (.val (.loc n)) G = true := by
  unfold isLst
  simp [h]
end

/-! loops -/
@[simp] theorem still_nil' {G : GH} : still [] G = true := still_nil
theorem still_of {n : Nat} {ws : List W} {G : GH} (h : G[n]? = some (.lst ws)) : still [(n, ws)] G = true := still_iff.mpr fun p hp => by
  simp at hp; subst hp; simp [h]
section
variable {src : Src} {g : MG} {b : MS}
/-- what a turn of a loop leaves -/
def Turn (N : Sl → GH → Prop) (E : RS → Prop) : RS → Prop
  | .nx τ G => N τ G
  | .ct τ G => N τ G
  | .bk τ G => E (.nx τ G)
  | .rt w G => E (.rt w G)
  | .ex c fs τ G => E (.ex c fs τ G)
  | .bad => False
@[simp] theorem turn_nx {N : Sl → GH → Prop} {E : RS → Prop} {τ : Sl} {G : GH} : Turn N E (.nx τ G) = N τ G := (rfl)
@[simp] theorem turn_ct {N : Sl → GH → Prop} {E : RS → Prop} {τ : Sl} {G : GH} : Turn N E (.ct τ G) = N τ G := (rfl)
@[simp] theorem turn_bk {N : Sl → GH → Prop} {E : RS → Prop} {τ : Sl} {G : GH} : Turn N E (.bk τ G) = E (.nx τ G) := (rfl)
@[simp] theorem turn_rt {N : Sl → GH → Prop} {E : RS → Prop} {w : W} {G : GH} : Turn N E (.rt w G) = E (.rt w G) := (rfl)
@[simp] theorem turn_ex {N : Sl → GH → Prop} {E : RS → Prop} {c : Nat} {fs : List (Str × W)} {τ : Sl} {G : GH} : Turn N E (.ex c fs τ G) = E (.ex c fs τ G) := (rfl)
theorem forL_run (I : Nat → Sl → GH → Prop) (E : RS → Prop) {ws : List W} {τ : Sl} {G : GH} (h0 : I 0 τ G)
    (hs : ∀ i w τ G, ws[i]? = some w → I i τ G → still src G = true ∧ ∃ τ1, g w τ = some τ1 ∧ Turn (I (i + 1)) E (b τ1 G))
    (he : ∀ τ G, I ws.length τ G → still src G = true ∧ E (.nx τ G)) : E (forL src g b ws τ G) := by
  have key : ∀ (n i : Nat) (τ : Sl) (G : GH), n = ws.length - i → i ≤ ws.length → I i τ G → E (forL src g b (ws.drop i) τ G) := by
    intro n
    induction n with
    | zero =>
      intro i τ G hn hi h
      have e : i = ws.length := by omega
      subst e
      obtain ⟨h1, h2⟩ := he τ G h
      rw [List.drop_length]
      unfold forL
      rw [h1]; exact h2
    | succ n ih =>
      intro i τ G hn hi h
      have hlt : i < ws.length := by omega
      rw [List.drop_eq_getElem_cons hlt]
      obtain ⟨h1, τ1, h2, h3⟩ := hs i _ τ G (List.getElem?_eq_getElem hlt) h
      unfold forL
      rw [h1, h2]
      simp only [if_true]
      cases e : b τ1 G with
      | nx τ2 G2 => rw [e] at h3; exact ih (i + 1) τ2 G2 (by omega) hlt h3
      | ct τ2 G2 => rw [e] at h3; exact ih (i + 1) τ2 G2 (by omega) hlt h3
      | bk τ2 G2 => rw [e] at h3; exact h3
      | rt w G2 => rw [e] at h3; exact h3
      | ex c fs τ2 G2 => rw [e] at h3; exact h3
      | bad => rw [e] at h3; exact h3.elim
  have := key ws.length 0 τ G rfl (Nat.zero_le _) h0
  rwa [List.drop_zero] at this
theorem whileF_run (I : Nat → Sl → GH → Prop) (E : RS → Prop) {c : M Bool} {m n : Nat} {τ : Sl} {G : GH} (h0 : I m τ G) (hn : m < n)
    (hs : ∀ m τ G, I m τ G → ∃ x G1, c τ G = .ok x G1 ∧ if x then Turn (fun τ G => ∃ m', m' < m ∧ I m' τ G) E (b τ G1) else E (.nx τ G1)) : E (whileF c b n τ G) := by
  induction n generalizing m τ G with
  | zero => omega
  | succ n ih =>
    obtain ⟨x, G1, h1, h2⟩ := hs m τ G h0
    unfold whileF
    rw [h1]
    cases x with
    | false => simpa using h2
    | true =>
      simp only [R.toS_ok, if_true] at h2 ⊢
      cases e : b τ G1 with
      | nx τ2 G2 => rw [e] at h2; obtain ⟨m', hm, h3⟩ := h2; exact ih h3 (by omega)
      | ct τ2 G2 => rw [e] at h2; obtain ⟨m', hm, h3⟩ := h2; exact ih h3 (by omega)
      | bk τ2 G2 => rw [e] at h2; exact h2
      | rt w G2 => rw [e] at h2; exact h2
      | ex c fs τ2 G2 => rw [e] at h2; exact h2
      | bad => rw [e] at h2; exact h2.elim
/-- a comprehension that leaves the heap as it is -/
theorem compF_map {c : M Bool} {e : M T} {τ : Sl} {G : GH} {ws : List W} (f : W → W) (hs : still src G = true)
    (h : ∀ w ∈ ws, ∃ τ1, g w τ = some τ1 ∧ c τ1 G = .ok true G ∧ (e τ1 G).bind force = .ok (f w) G) : compF src g c e τ ws G = .ok (ws.map f) G := by
  induction ws with
  | nil => unfold compF; rw [hs]; rfl
  | cons w ws ih =>
    obtain ⟨τ1, h1, h2, h3⟩ := h w (List.mem_cons_self ..)
    unfold compF
    rw [hs, h1]
    have h3' : mF e τ1 G = .ok (f w) G := h3
    simp only [if_true, h2, R.noEx, R.bind_ok, h3', ih fun u hu => h u (List.mem_cons_of_mem _ hu)]
    rfl
theorem mComp_at (mi : M (List W × Src)) (c : M Bool) (e : M T) (vs : List Nat) (τ : Sl) (G : GH) : mComp mi g c e vs τ G = (mi τ G).bind fun p G1 =>
  if p.1.length ≤ 16777216 then (compF p.2 g c e (wipeS τ vs) p.1 G1).bind fun ys G2 => .ok (.tmp ys) G2 else .bad := (rfl)
@[simp] theorem mYes_at (τ : Sl) (G : GH) : mYes τ G = .ok true G := (rfl)
end
end Sy
set_option Elab.async false
set_option linter.all false
set_option maxRecDepth 100000
set_option maxHeartbeats 4000000
namespace Sy
open PySem PySem.Spec PyProof.Rows L2
/-! like data -/
theorem eqvA_cons (x y : PyData) (xs ys : List PyData) : PyData.eqvAll (x :: xs) (y :: ys) = (PyData.eqv x y && PyData.eqvAll xs ys) := by rw [PyData.eqvAll]
mutual
def noDict : PyData → Bool
  | .dict _ => false
  | .list xs => noDictA xs
  | .tuple xs => noDictA xs
  | _ => true
def noDictA : List PyData → Bool
  | [] => true
  | x :: xs => noDict x && noDictA xs
end
mutual
theorem eqv_self : ∀ d : PyData, noDict d = true → PyData.eqv d d = true
  | .none, _ => by rw [PyData.eqv]
  | .bool b, _ => by rw [PyData.eqv]; simp
  | .int b, _ => by rw [PyData.eqv]; simp
  | .str b, _ => by rw [PyData.eqv]; simp
  | .list xs, h => by rw [PyData.eqv]; exact eqvA_self xs (by simpa [noDict] using h)
  | .tuple xs, h => by rw [PyData.eqv]; exact eqvA_self xs (by simpa [noDict] using h)
  | .dict xs, h => by simp [noDict] at h
theorem eqvA_self : ∀ xs : List PyData, noDictA xs = true → PyData.eqvAll xs xs = true
  | [], _ => by rw [PyData.eqvAll]
  | x :: xs, h => by
    simp [noDictA] at h
    rw [eqvA_cons, eqv_self x h.1, eqvA_self xs h.2]; rfl
end
/-! no truths, no dicts -/
mutual
def plainD : PyData → Bool
  | .dict _ => false
  | .bool _ => false
  | .list xs => plainA xs
  | .tuple xs => plainA xs
  | _ => true
def plainA : List PyData → Bool
  | [] => true
  | x :: xs => plainD x && plainA xs
end
mutual
theorem eqv_eq : ∀ d e : PyData, plainD d = true → plainD e = true → PyData.eqv d e = true → d = e
  | .none, .none, _, _, _ => rfl
  | .int a, .int b, _, _, h => by rw [PyData.eqv] at h; simp at h; rw [h]
  | .str a, .str b, _, _, h => by rw [PyData.eqv] at h; simp at h; rw [h]
  | .list xs, .list ys, h1, h2, h => by rw [PyData.eqv] at h; rw [eqvA_eq xs ys (by simpa [plainD] using h1) (by simpa [plainD] using h2) h]
  | .tuple xs, .tuple ys, h1, h2, h => by rw [PyData.eqv] at h; rw [eqvA_eq xs ys (by simpa [plainD] using h1) (by simpa [plainD] using h2) h]
  | .bool _, _, h, _, _ => by simp [plainD] at h
  | .dict _, _, h, _, _ => by simp [plainD] at h
  | .none, .bool _, _, h, _ | .int _, .bool _, _, h, _ | .str _, .bool _, _, h, _ | .list _, .bool _, _, h, _ | .tuple _, .bool _, _, h, _ => by simp [plainD] at h
  | .none, .dict _, _, h, _ | .int _, .dict _, _, h, _ | .str _, .dict _, _, h, _ | .list _, .dict _, _, h, _ | .tuple _, .dict _, _, h, _ => by simp [plainD] at h
  | .none, .int _, _, _, h | .none, .str _, _, _, h | .none, .list _, _, _, h | .none, .tuple _, _, _, h => by simp [PyData.eqv] at h
  | .int _, .none, _, _, h | .int _, .str _, _, _, h | .int _, .list _, _, _, h | .int _, .tuple _, _, _, h => by simp [PyData.eqv] at h
  | .str _, .none, _, _, h | .str _, .int _, _, _, h | .str _, .list _, _, _, h | .str _, .tuple _, _, _, h => by simp [PyData.eqv] at h
  | .list _, .none, _, _, h | .list _, .int _, _, _, h | .list _, .str _, _, _, h | .list _, .tuple _, _, _, h => by simp [PyData.eqv] at h
  | .tuple _, .none, _, _, h | .tuple _, .int _, _, _, h | .tuple _, .str _, _, _, h | .tuple _, .list _, _, _, h => by simp [PyData.eqv] at h
theorem eqvA_eq : ∀ xs ys : List PyData, plainA xs = true → plainA ys = true → PyData.eqvAll xs ys = true → xs = ys
  | [], [], _, _, _ => rfl
  | [], _ :: _, _, _, h => by simp [PyData.eqvAll] at h
  | _ :: _, [], _, _, h => by simp [PyData.eqvAll] at h
  | x :: xs, y :: ys, h1, h2, h => by
    rw [eqvA_cons, Bool.and_eq_true] at h
    simp [plainA] at h1 h2
    rw [eqv_eq x y h1.1 h2.1 h.1, eqvA_eq xs ys h1.2 h2.2 h.2]
end
mutual
theorem noDict_plain : ∀ d : PyData, plainD d = true → noDict d = true
  | .none, _ => rfl
  | .bool _, _ => rfl
  | .int _, _ => rfl
  | .str _, _ => rfl
  | .list xs, h => by rw [noDict]; exact noDictA_plain xs (by simpa [plainD] using h)
  | .tuple xs, h => by rw [noDict]; exact noDictA_plain xs (by simpa [plainD] using h)
  | .dict _, h => by simp [plainD] at h
theorem noDictA_plain : ∀ xs : List PyData, plainA xs = true → noDictA xs = true
  | [], _ => rfl
  | x :: xs, h => by
    simp [plainA] at h
    rw [noDictA, noDict_plain x h.1, noDictA_plain xs h.2]; rfl
end
open Classical in
theorem eqv_dec {d e : PyData} (h1 : plainD d = true) (h2 : plainD e = true) : PyData.eqv d e = decide (d = e) := by
  by_cases h : d = e
  · subst h
    rw [eqv_self d (noDict_plain d h1)]
    simp
  · cases z : PyData.eqv d e with
    | true => exact absurd (eqv_eq d e h1 h2 z) h
    | false => simp [h]
theorem plainA_ints (is : List Int) : plainA (is.map PyData.int) = true := by
  induction is with
  | nil => rfl
  | cons i is ih => rw [List.map_cons, plainA, ih]; rfl
theorem ints_inj {is js : List Int} : is.map PyData.int = js.map PyData.int ↔ is = js := by
  constructor
  · intro h
    induction is generalizing js with
    | nil => cases js <;> simp at h ⊢
    | cons i is ih =>
      cases js with
      | nil => simp at h
      | cons j js => simp at h; rw [h.1, ih (by simpa using h.2)]
  · intro h; rw [h]
theorem eqv_ints (is js : List Int) : PyData.eqv (.list (is.map .int)) (.list (js.map .int)) = decide (is = js) := by
  rw [eqv_dec (by rw [plainD]; exact plainA_ints is) (by rw [plainD]; exact plainA_ints js)]
  simp [ints_inj]
/-! data of values -/
theorem mapO_ints (n : Nat) (G : GH) (is : List Int) : mapO (toD (n + 1) G) (is.map W.int) = some (is.map PyData.int) := by
  induction is with
  | nil => rfl
  | cons i is ih => unfold mapO; rw [List.map_cons]; simp [ih]; rfl
theorem toDT_tmpI (G : GH) (is : List Int) : toDT G (.tmp (is.map W.int)) = some (.list (is.map PyData.int)) := by
  have e : mapO (toD 8 G) (is.map W.int) = some (is.map PyData.int) := mapO_ints 7 G is
  unfold toDT
  simp [e]
theorem toDT_locI {G : GH} {n : Nat} {is : List Int} (h : G[n]? = some (.lst (is.map W.int))) : toDT G (.val (.loc n)) = some (.list (is.map PyData.int)) := by
  have e : mapO (toD 8 G) (is.map W.int) = some (is.map PyData.int) := mapO_ints 7 G is
  unfold toDT toD
  simp [h, e]
@[simp] theorem toDT_int (G : GH) (i : Int) : toDT G (.val (.int i)) = some (.int i) := (rfl)
@[simp] theorem toDT_bl (G : GH) (i : Bool) : toDT G (.val (.bl i)) = some (.bool i) := (rfl)
@[simp] theorem toDT_non (G : GH) : toDT G (.val .non) = some .none := (rfl)
theorem blsW_map (bs : List Bool) : blsW (bs.map W.bl) = some bs := by
  induction bs with
  | nil => rfl
  | cons b bs ih => unfold blsW; rw [List.map_cons]; simp [ih]
theorem intsW_map (bs : List Int) : intsW (bs.map W.int) = some bs := by
  induction bs with
  | nil => rfl
  | cons b bs ih => unfold intsW; rw [List.map_cons]; simp [ih]
theorem fAll_tmp (bs : List Bool) (G : GH) : fAll [.tmp (bs.map W.bl)] G = .ok (.val (.bl (bs.all id))) G := by
  unfold fAll
  simp [blsW_map]
theorem fAny_tmp (bs : List Bool) (G : GH) : fAny [.tmp (bs.map W.bl)] G = .ok (.val (.bl (bs.any id))) G := by
  unfold fAny
  simp [blsW_map]
theorem fSum_tmp (is : List Int) (G : GH) : fSum [.tmp (is.map W.int)] G = .ok (.val (.int is.sum)) G := by
  unfold fSum
  simp [intsW_map]
theorem fAll_yes {α : Type} (ws : List α) (G : GH) : fAll [.tmp (ws.map fun _ => W.bl true)] G = .ok (.val (.bl true)) G := by
  have h := fAll_tmp (ws.map fun _ => true) G
  rw [List.map_map] at h
  rw [show (ws.map fun _ => W.bl true) = ws.map (W.bl ∘ fun _ => true) from rfl, h]
  simp
theorem fIn_ints {G : GH} {n : Nat} {is : List Int} (i : Int) (h : G[n]? = some (.lst (is.map W.int))) : fIn (.val (.int i)) (.val (.loc n)) G = .ok (.val (.bl (decide (i ∈ is)))) G := by
  unfold fIn inB
  simp only [toDT_int, toDT_locI h]
  have e : ((is.map PyData.int).any fun z => PyData.eqv z (.int i)) = decide (i ∈ is) := by
    clear h
    induction is with
    | nil => simp
    | cons j js ih =>
      rw [List.map_cons, List.any_cons, ih, show PyData.eqv (.int j) (.int i) = (j == i) by rw [PyData.eqv]]
      by_cases hj : j = i
      · subst hj; simp
      · have hj2 : ¬ i = j := fun e => hj e.symm
        simp [hj, hj2]
  rw [e]
@[simp] theorem fLen_tmp (ws : List W) (G : GH) : fLen [.tmp ws] G = .ok (.val (.int ws.length)) G := (rfl)
theorem fLen_loc {G : GH} {n : Nat} {ws : List W} (h : G[n]? = some (.lst ws)) : fLen [.val (.loc n)] G = .ok (.val (.int ws.length)) G := by
  unfold fLen
  simp [h]
end Sy
set_option Elab.async false
set_option linter.all false
set_option maxRecDepth 100000
set_option maxHeartbeats 4000000
namespace Sy
open PySem PySem.Spec PyProof.Rows L2
/-! steps of a suite -/
theorem seq_nx {a b : MS} {τ τ1 : Sl} {G G1 : GH} (h : a τ G = .nx τ1 G1) : sSeq a b τ G = b τ1 G1 := by
  rw [sSeq_at, h]; rfl
theorem seq_rt {a b : MS} {τ : Sl} {w : W} {G G1 : GH} (h : a τ G = .rt w G1) : sSeq a b τ G = .rt w G1 := by
  rw [sSeq_at, h]; rfl
theorem seq_ex {a b : MS} {τ τ1 : Sl} {c : Nat} {fs} {G G1 : GH} (h : a τ G = .ex c fs τ1 G1) : sSeq a b τ G = .ex c fs τ1 G1 := by
  rw [sSeq_at, h]; rfl
theorem seq_no {c : M Bool} {a b : MS} {τ : Sl} {G G1 : GH} (h : c τ G = .ok false G1) : sSeq (sIf c a sNext) b τ G = b τ G1 := by
  refine seq_nx ?_
  rw [sIf_at, h]; rfl
theorem seq_yes {c : M Bool} {a b d : MS} {τ : Sl} {G G1 : GH} (h : c τ G = .ok true G1) : sSeq (sIf c a d) b τ G = sSeq a b τ G1 := by
  rw [sSeq_at, sSeq_at, sIf_at, h]; rfl
theorem seq_else {c : M Bool} {a b d : MS} {τ : Sl} {G G1 : GH} (h : c τ G = .ok false G1) : sSeq (sIf c a d) b τ G = sSeq d b τ G1 := by
  rw [sSeq_at, sSeq_at, sIf_at, h]; rfl
theorem if_no {c : M Bool} {a : MS} {τ : Sl} {G G1 : GH} (h : c τ G = .ok false G1) : sIf c a sNext τ G = .nx τ G1 := by
  rw [sIf_at, h]; rfl
theorem if_yes {c : M Bool} {a d : MS} {τ : Sl} {G G1 : GH} (h : c τ G = .ok true G1) : sIf c a d τ G = a τ G1 := by
  rw [sIf_at, h]; rfl
theorem if_else {c : M Bool} {a d : MS} {τ : Sl} {G G1 : GH} (h : c τ G = .ok false G1) : sIf c a d τ G = d τ G1 := by
  rw [sIf_at, h]; rfl
theorem try_nx {xt : XTab} {C i : Nat} {mb : MS} {ms : Nat → Addr → MS} {τ τ1 : Sl} {G G1 : GH} (h : mb τ G = .nx τ1 G1) : sTry xt C i mb ms τ G = .nx τ1 G1 := by
  unfold sTry; rw [h]
theorem try_rt {xt : XTab} {C i : Nat} {mb : MS} {ms : Nat → Addr → MS} {τ : Sl} {w : W} {G G1 : GH} (h : mb τ G = .rt w G1) : sTry xt C i mb ms τ G = .rt w G1 := by
  unfold sTry; rw [h]
theorem try_ex {xt : XTab} {C i c : Nat} {mb : MS} {ms : Nat → Addr → MS} {τ τ1 : Sl} {G G1 : GH} {r : RS} (h : mb τ G = .ex c [] τ1 G1) (hx : xsub xt c C = some true) (hs : ∀ a, (ms c a (τ1.set i (some (.exn c a))) G1).unS i = r) : sTry xt C i mb ms τ G = r := by
  unfold sTry; rw [h]
  simp only [hx]
  exact pick_eq hs
theorem mDef_ex {n : Nat} {b : MS} {ws : List W} {G : GH} (τ : Sl) {τ1 : Sl} {c : Nat} {fs} {G' : GH} (h : b τ G = .ex c fs τ1 G') (hτ : ws.map some ++ List.replicate (n - ws.length) none = τ := by rfl) : mDef n b ws G = .ex c fs G' := by
  rw [mDef_fin, hτ, h]; rfl
theorem mDef_nx {n : Nat} {b : MS} {ws : List W} {G : GH} (τ : Sl) {τ1 : Sl} {G' : GH} (h : b τ G = .nx τ1 G') (hτ : ws.map some ++ List.replicate (n - ws.length) none = τ := by rfl) : mDef n b ws G = .ok .non G' := by
  rw [mDef_fin, hτ, h]; rfl
@[simp] theorem sRaise_at (c : Nat) (τ : Sl) (G : GH) : sRaise c τ G = .ex c [] τ G := (rfl)
@[simp] theorem mDict0_at (τ : Sl) (G : GH) : mDict0 τ G = .ok (.val (.loc G.length)) (G ++ [.dK []]) := (rfl)
theorem fIsE_ok {it : ITab} {c : Nat} {a : Addr} {k : W} {b : Bool} {G : GH} (h : (ckW k).bind (isub it c) = some b) : fIsE it c a [.val (.exn c a), .val k] G = .ok (.val (.bl b)) G := by
  unfold fIsE
  simp [h]
/-! types -/
def fIsiR (o : Option Bool) (G : GH) : R T := match o with
  | some b => .ok (.val (.bl b)) G
  | none => .bad
theorem fIsi_at (t : T) (b : String) (G : GH) : fIsi [t, .val (.ty b)] G = fIsiR ((tyOf G t).bind fun a => subTy a b) G := by
  show (match (tyOf G t).bind fun a => subTy a b with
    | some r => R.ok (T.val (W.bl r)) G
    | none => R.bad) = _
  unfold fIsiR
  cases (tyOf G t).bind fun a => subTy a b <;> rfl
theorem tyOf_lst {G : GH} {n : Nat} {ws : List W} (h : G[n]? = some (.lst ws)) : tyOf G (.val (.loc n)) = some "list" := by
  unfold tyOf; simp [h]
theorem tyOf_dK {G : GH} {n : Nat} {ws} (h : G[n]? = some (.dK ws)) : tyOf G (.val (.loc n)) = some "dict" := by
  unfold tyOf; simp [h]
theorem isi_of {G : GH} {t : T} {a b : String} {r : Bool} (h : tyOf G t = some a) (hs : subTy a b = some r) : fIsi [t, .val (.ty b)] G = .ok (.val (.bl r)) G := by
  rw [fIsi_at, h, Option.bind_some, hs]; rfl
@[simp] theorem isi_int_int (i : Int) (G : GH) : fIsi [.val (.int i), .val (.ty "int")] G = .ok (.val (.bl true)) G := isi_of (a := "int") rfl (by decide)
@[simp] theorem isi_int_bool (i : Int) (G : GH) : fIsi [.val (.int i), .val (.ty "bool")] G = .ok (.val (.bl false)) G := isi_of (a := "int") rfl (by decide)
@[simp] theorem isi_int_list (i : Int) (G : GH) : fIsi [.val (.int i), .val (.ty "list")] G = .ok (.val (.bl false)) G := isi_of (a := "int") rfl (by decide)
@[simp] theorem isi_int_tuple (i : Int) (G : GH) : fIsi [.val (.int i), .val (.ty "tuple")] G = .ok (.val (.bl false)) G := isi_of (a := "int") rfl (by decide)
@[simp] theorem isi_bl_int (i : Bool) (G : GH) : fIsi [.val (.bl i), .val (.ty "int")] G = .ok (.val (.bl true)) G := isi_of (a := "bool") rfl (by decide)
@[simp] theorem isi_bl_bool (i : Bool) (G : GH) : fIsi [.val (.bl i), .val (.ty "bool")] G = .ok (.val (.bl true)) G := isi_of (a := "bool") rfl (by decide)
@[simp] theorem isi_non_int (G : GH) : fIsi [.val .non, .val (.ty "int")] G = .ok (.val (.bl false)) G := isi_of (a := "NoneType") rfl (by decide)
@[simp] theorem isi_non_list (G : GH) : fIsi [.val .non, .val (.ty "list")] G = .ok (.val (.bl false)) G := isi_of (a := "NoneType") rfl (by decide)
@[simp] theorem isi_str_int (x : Str) (G : GH) : fIsi [.val (.str x), .val (.ty "int")] G = .ok (.val (.bl false)) G := isi_of (a := "str") rfl (by decide)
@[simp] theorem isi_str_list (x : Str) (G : GH) : fIsi [.val (.str x), .val (.ty "list")] G = .ok (.val (.bl false)) G := isi_of (a := "str") rfl (by decide)
@[simp] theorem isi_tup_int (x : List W) (G : GH) : fIsi [.val (.tup x), .val (.ty "int")] G = .ok (.val (.bl false)) G := isi_of (a := "tuple") rfl (by decide)
@[simp] theorem isi_tup_list (x : List W) (G : GH) : fIsi [.val (.tup x), .val (.ty "list")] G = .ok (.val (.bl false)) G := isi_of (a := "tuple") rfl (by decide)
@[simp] theorem isi_tup_tuple (x : List W) (G : GH) : fIsi [.val (.tup x), .val (.ty "tuple")] G = .ok (.val (.bl true)) G := isi_of (a := "tuple") rfl (by decide)
theorem isi_lst_list {G : GH} {n : Nat} {ws : List W} (h : G[n]? = some (.lst ws)) : fIsi [.val (.loc n), .val (.ty "list")] G = .ok (.val (.bl true)) G := isi_of (tyOf_lst h) (by decide)
theorem isi_lst_int {G : GH} {n : Nat} {ws : List W} (h : G[n]? = some (.lst ws)) : fIsi [.val (.loc n), .val (.ty "int")] G = .ok (.val (.bl false)) G := isi_of (tyOf_lst h) (by decide)
/-! lists of ints, lists of places -/
abbrev iW (is : List Int) : List W := is.map W.int
def locs (n k : Nat) : List W := (List.range k).map fun i => W.loc (n + i)
@[simp] theorem locs_len (n k : Nat) : (locs n k).length = k := by simp [locs]
theorem locs_succ (n k : Nat) : locs n (k + 1) = .loc n :: locs (n + 1) k := by
  unfold locs
  rw [List.range_succ_eq_map, List.map_cons, List.map_map]
  congr 1
  apply List.map_congr_left
  intro i _
  show W.loc (n + (i + 1)) = W.loc (n + 1 + i)
  congr 1; omega
/-! pictures: a list of lists -/
structure RowsAt (G : GH) (n : Nat) (ms : List Nat) (rows : List (List W)) : Prop where
  top : G[n]? = some (.lst (ms.map W.loc))
  row : Paired (fun m r => G[m]? = some (.lst r)) ms rows
theorem get_mono {G : GH} {n : Nat} {o : GO} (h : G[n]? = some o) (xs : GH) : (G ++ xs)[n]? = some o := by
  rw [List.getElem?_append_left (List.getElem?_eq_some_iff.mp h).1]; exact h
theorem pair_imp {α β : Type} {P Q : α → β → Prop} {xs : List α} {ys : List β} (h : Paired P xs ys) (f : ∀ x y, P x y → Q x y) : Paired Q xs ys := paired_imp h f
theorem RowsAt.mono {G : GH} {n : Nat} {ms : List Nat} {rows : List (List W)} (h : RowsAt G n ms rows) (xs : GH) : RowsAt (G ++ xs) n ms rows :=
  ⟨get_mono h.top xs, paired_imp h.row fun _ _ e => get_mono e xs⟩
theorem RowsAt.len {G : GH} {n : Nat} {ms : List Nat} {rows : List (List W)} (h : RowsAt G n ms rows) : ms.length = rows.length := h.row.length
theorem paired_mem {α β : Type} {P : α → β → Prop} {xs : List α} {ys : List β} (h : Paired P xs ys) : ∀ x ∈ xs, ∃ y ∈ ys, P x y := by
  induction h with
  | nil => simp
  | cons q t ih =>
    intro x hx
    rcases List.mem_cons.mp hx with rfl | hx
    · exact ⟨_, List.mem_cons_self, q⟩
    · obtain ⟨y, h1, h2⟩ := ih x hx
      exact ⟨y, List.mem_cons_of_mem _ h1, h2⟩
theorem paired_nth {α β : Type} {P : α → β → Prop} {xs : List α} {ys : List β} (h : Paired P xs ys) {i : Nat} {y : β} (e : ys[i]? = some y) : ∃ x, xs[i]? = some x ∧ P x y := by
  have hl : i < xs.length := by rw [h.length]; exact (List.getElem?_eq_some_iff.mp e).1
  exact ⟨_, List.getElem?_eq_getElem hl, paired_get h i _ _ (List.getElem?_eq_getElem hl) e⟩
/-- rows as they are laid: the rows, then the list of them -/
def laidR (G : GH) (rows : List (List W)) : GH := G ++ (rows.map GO.lst ++ [.lst (locs G.length rows.length)])
def places (n k : Nat) : List Nat := (List.range k).map (n + ·)
theorem places_loc (n k : Nat) : (places n k).map W.loc = locs n k := by
  unfold places locs
  rw [List.map_map]; rfl
theorem places_nodup (n k : Nat) : (places n k).Nodup := by
  unfold places
  exact List.Pairwise.map _ (fun a b (h : a ≠ b) e => h (by omega)) List.nodup_range
theorem paired_of {α β : Type} {P : α → β → Prop} : ∀ {xs : List α} {ys : List β}, xs.length = ys.length → (∀ (i : Nat) x y, xs[i]? = some x → ys[i]? = some y → P x y) → Paired P xs ys
  | [], [], _, _ => .nil
  | [], _ :: _, h, _ => by simp at h
  | _ :: _, [], h, _ => by simp at h
  | x :: xs, y :: ys, h, f => .cons (f 0 x y rfl rfl) (paired_of (by simpa using h) fun i a b e1 e2 => f (i + 1) a b (by simpa using e1) (by simpa using e2))
theorem laidR_rows (G : GH) (rows : List (List W)) : RowsAt (laidR G rows) (G.length + rows.length) (places G.length rows.length) rows := by
  unfold laidR
  refine ⟨?_, paired_of (by simp [places]) fun i m r e1 e2 => ?_⟩
  · rw [places_loc, get_topk, List.getElem?_append_right (by simp)]
    simp
  · have hl := (List.getElem?_eq_some_iff.mp e2).1
    unfold places at e1
    rw [List.getElem?_map, List.getElem?_range hl] at e1
    cases e1
    show (G ++ _)[G.length + i]? = _
    rw [get_topk, List.getElem?_append_left (by simpa using hl), List.getElem?_map, e2]; rfl
/-! data of rows of ints -/
abbrev pD (pic : List (List Int)) : PyData := .list (pic.map fun r => .list (r.map PyData.int))
theorem toD_ints (n : Nat) {G : GH} {m : Nat} {is : List Int} (h : G[m]? = some (.lst (iW is))) : toD (n + 2) G (.loc m) = some (.list (is.map PyData.int)) := by
  have e := mapO_ints n G is
  unfold toD
  simp [h, e]
theorem mapO_rows (n : Nat) {G : GH} {ms : List Nat} {pic : List (List Int)} (h : Paired (fun m r => G[m]? = some (.lst r)) ms (pic.map iW)) : mapO (toD (n + 2) G) (ms.map W.loc) = some (pic.map fun r => .list (r.map PyData.int)) := by
  induction pic generalizing ms with
  | nil => cases ms with
    | nil => rfl
    | cons m ms => exact absurd h.length (by simp)
  | cons r pic ih =>
    cases ms with
    | nil => exact absurd h.length (by simp)
    | cons m ms =>
      have h1 : G[m]? = some (.lst (iW r)) := by cases h; assumption
      have h2 : Paired (fun m r => G[m]? = some (.lst r)) ms (pic.map iW) := by cases h; assumption
      rw [List.map_cons, List.map_cons]
      unfold mapO
      rw [toD_ints n h1, ih h2]; rfl
theorem RowsAt.dat {G : GH} {n : Nat} {ms : List Nat} {pic : List (List Int)} (h : RowsAt G n ms (pic.map iW)) : toDT G (.val (.loc n)) = some (pD pic) := by
  have e := mapO_rows 6 h.row
  unfold toDT toD
  simp [h.top, e]
theorem plain_pD (pic : List (List Int)) : plainD (pD pic) = true := by
  rw [plainD]
  induction pic with
  | nil => rfl
  | cons r pic ih =>
    rw [List.map_cons, plainA, ih, plainD, plainA_ints]; rfl
theorem pD_inj {p q : List (List Int)} : pD p = pD q ↔ p = q := by
  constructor
  · intro h
    have h2 : (p.map fun r => PyData.list (r.map PyData.int)) = q.map fun r => PyData.list (r.map PyData.int) := by
      injection h
    induction p generalizing q with
    | nil => cases q <;> simp at h2 ⊢
    | cons r p ih =>
      cases q with
      | nil => simp at h2
      | cons s q =>
        rw [List.map_cons, List.map_cons] at h2
        injection h2 with h3 h4
        injection h3 with h5
        rw [ints_inj.mp h5, ih (by rw [pD, pD, h4]) h4]
  · intro h; rw [h]
theorem eqv_pD (p q : List (List Int)) : PyData.eqv (pD p) (pD q) = decide (p = q) := by
  rw [eqv_dec (plain_pD p) (plain_pD q)]
  simp only [pD_inj]
theorem RowsAt.eq {G : GH} {n m : Nat} {ms ks : List Nat} {p q : List (List Int)} (h : RowsAt G n ms (p.map iW)) (h2 : RowsAt G m ks (q.map iW)) : fEq (.val (.loc n)) (.val (.loc m)) G = .ok (.val (.bl (decide (p = q)))) G := by
  rw [fEq_data h.dat h2.dat, eqv_pD]
theorem RowsAt.ne {G : GH} {n m : Nat} {ms ks : List Nat} {p q : List (List Int)} (h : RowsAt G n ms (p.map iW)) (h2 : RowsAt G m ks (q.map iW)) : fNe (.val (.loc n)) (.val (.loc m)) G = .ok (.val (.bl (!decide (p = q)))) G := by
  rw [fNe_data h.dat h2.dat, eqv_pD]
theorem eq_ints {G : GH} {n m : Nat} {p q : List Int} (h : G[n]? = some (.lst (iW p))) (h2 : G[m]? = some (.lst (iW q))) : fEq (.val (.loc n)) (.val (.loc m)) G = .ok (.val (.bl (decide (p = q)))) G := by
  rw [fEq_data (toDT_locI h) (toDT_locI h2), eqv_ints]
theorem ne_ints {G : GH} {n m : Nat} {p q : List Int} (h : G[n]? = some (.lst (iW p))) (h2 : G[m]? = some (.lst (iW q))) : fNe (.val (.loc n)) (.val (.loc m)) G = .ok (.val (.bl (!decide (p = q)))) G := by
  rw [fNe_data (toDT_locI h) (toDT_locI h2), eqv_ints]
/-! comprehensions that lay a list each turn -/
theorem compF_alloc {src : Src} {g : MG} {c : M Bool} {e : M T} {τ : Sl} {G : GH} {ws : List W} (f : W → List W) (hs : ∀ xs, still src (G ++ xs) = true)
    (h : ∀ w ∈ ws, ∀ xs, ∃ τ1, g w τ = some τ1 ∧ c τ1 (G ++ xs) = .ok true (G ++ xs) ∧ e τ1 (G ++ xs) = .ok (.tmp (f w)) (G ++ xs)) :
    compF src g c e τ ws G = .ok (locs G.length ws.length) (G ++ ws.map fun w => .lst (f w)) := by
  have key : ∀ (ws' : List W) (xs : GH), (∀ w ∈ ws', w ∈ ws) → compF src g c e τ ws' (G ++ xs) = .ok (locs (G ++ xs).length ws'.length) (G ++ xs ++ ws'.map fun w => .lst (f w)) := by
    intro ws'
    induction ws' with
    | nil => intro xs _; unfold compF; rw [hs xs]; simp [locs]
    | cons w ws' ih =>
      intro xs hw
      obtain ⟨τ1, h1, h2, h3⟩ := h w (hw w List.mem_cons_self) xs
      unfold compF
      have h4 : mF e τ1 (G ++ xs) = .ok (.loc (G ++ xs).length) (G ++ (xs ++ [.lst (f w)])) := by
        rw [mF_at, h3, R.bind_ok, force_tmp, List.append_assoc]
      have h5 := ih (xs ++ [.lst (f w)]) fun u hu => hw u (List.mem_cons_of_mem _ hu)
      rw [hs xs, h1]
      simp only [if_true, h2, R.noEx, R.bind_ok, h4, h5]
      congr 1
      · rw [List.length_cons, locs_succ]
        simp
        congr 1
      · simp
  have := key ws [] fun _ h => h
  simpa using this
/-- .. with a test, no list laid -/
theorem compF_filter {src : Src} {g : MG} {c : M Bool} {e : M T} {τ : Sl} {G : GH} {ws : List W} (p : W → Bool) (f : W → W) (hs : still src G = true)
    (h : ∀ w ∈ ws, ∃ τ1, g w τ = some τ1 ∧ c τ1 G = .ok (p w) G ∧ (p w = true → (e τ1 G).bind force = .ok (f w) G)) : compF src g c e τ ws G = .ok ((ws.filter p).map f) G := by
  induction ws with
  | nil => unfold compF; rw [hs]; rfl
  | cons w ws ih =>
    obtain ⟨τ1, h1, h2, h3⟩ := h w List.mem_cons_self
    have ih' := ih fun u hu => h u (List.mem_cons_of_mem _ hu)
    unfold compF
    rw [hs, h1]
    cases e : p w with
    | true =>
      have h3' : mF _ τ1 G = .ok (f w) G := h3 e
      rw [List.filter_cons, e]
      simp only [if_true, h2, e, R.noEx, R.bind_ok, h3', ih']
      rfl
    | false =>
      rw [List.filter_cons, e]
      simp only [if_true, h2, e, R.noEx, R.bind_ok, ih']
      rfl
theorem compF_paired {β : Type} {src : Src} {g : MG} {c : M Bool} {e : M T} {τ : Sl} {G : GH} {ws : List W} {ys : List β} (F : β → W) (hs : still src G = true)
    (hp : Paired (fun w y => ∃ τ1, g w τ = some τ1 ∧ c τ1 G = .ok true G ∧ (e τ1 G).bind force = .ok (F y) G) ws ys) : compF src g c e τ ws G = .ok (ys.map F) G := by
  induction hp with
  | nil => unfold compF; rw [hs]; rfl
  | cons q t ih =>
    obtain ⟨τ1, h1, h2, h3⟩ := q
    unfold compF
    have h3' : mF e τ1 G = .ok (F _) G := h3
    rw [hs, h1]
    simp only [if_true, h2, R.noEx, R.bind_ok, h3', ih]
    rfl
theorem paired_map {α β γ : Type} {P : γ → β → Prop} {f : α → γ} {xs : List α} {ys : List β} (h : Paired (fun x y => P (f x) y) xs ys) : Paired P (xs.map f) ys := by
  induction h with
  | nil => exact .nil
  | cons q t ih => exact .cons q ih
theorem compF_allocP {β : Type} {src : Src} {g : MG} {c : M Bool} {e : M T} {τ : Sl} {G : GH} {ws : List W} {ys : List β} (F : β → List W) (hs : ∀ xs, still src (G ++ xs) = true)
    (hp : Paired (fun w y => ∀ xs, ∃ τ1, g w τ = some τ1 ∧ c τ1 (G ++ xs) = .ok true (G ++ xs) ∧ e τ1 (G ++ xs) = .ok (.tmp (F y)) (G ++ xs)) ws ys) :
    compF src g c e τ ws G = .ok (locs G.length ys.length) (G ++ ys.map fun y => .lst (F y)) := by
  have key : ∀ (ws' : List W) (ys' : List β) (xs : GH), Paired (fun w y => ∀ xs, ∃ τ1, g w τ = some τ1 ∧ c τ1 (G ++ xs) = .ok true (G ++ xs) ∧ e τ1 (G ++ xs) = .ok (.tmp (F y)) (G ++ xs)) ws' ys' →
      compF src g c e τ ws' (G ++ xs) = .ok (locs (G ++ xs).length ys'.length) (G ++ xs ++ ys'.map fun y => .lst (F y)) := by
    intro ws' ys' xs h
    induction h generalizing xs with
    | nil => unfold compF; rw [hs xs]; simp [locs]
    | @cons w y ws' ys' q t ih =>
      obtain ⟨τ1, h1, h2, h3⟩ := q xs
      unfold compF
      have h4 : mF e τ1 (G ++ xs) = .ok (.loc (G ++ xs).length) (G ++ (xs ++ [.lst (F y)])) := by
        rw [mF_at, h3, R.bind_ok, force_tmp, List.append_assoc]
      have h5 := ih (xs ++ [.lst (F y)])
      rw [hs xs, h1]
      simp only [if_true, h2, R.noEx, R.bind_ok, h4, h5]
      congr 1
      · rw [List.length_cons, locs_succ]
        simp
        congr 1
      · simp
  have := key ws ys [] hp
  simpa using this
theorem fList_loc {G : GH} {n : Nat} {ws : List W} (h : G[n]? = some (.lst ws)) : fList [.val (.loc n)] G = .ok (.tmp ws) G := by
  unfold fList
  simp [h]
theorem fAug_loc {G : GH} {n m : Nat} {us ws : List W} (h : G[n]? = some (.lst us)) (h2 : G[m]? = some (.lst ws)) (hl : us.length + ws.length ≤ 16777216) :
    fAugAdd (.val (.loc n)) (.val (.loc m)) G = .ok (.val (.loc n)) (G.set n (.lst (us ++ ws))) := by
  unfold fAugAdd
  simp [h, h2, hl]
theorem fPop_ok {G : GH} {n : Nat} {us : List W} {w : W} (h : G[n]? = some (.lst (us ++ [w]))) : fPop (.val (.loc n)) [] G = .ok (.val w) (G.set n (.lst us)) := by
  unfold fPop
  simp [h]
theorem iterZ_loc {G : GH} {n m : Nat} {ws us : List W} (h : G[n]? = some (.lst ws)) (h2 : G[m]? = some (.lst us)) : iterZ [.val (.loc n), .val (.loc m)] G = .ok (zipW ws us, [(n, ws), (m, us)]) G := by
  unfold iterZ srcOf
  simp [h, h2]
theorem still_two {n m : Nat} {ws us : List W} {G : GH} (h : G[n]? = some (.lst ws)) (h2 : G[m]? = some (.lst us)) : still [(n, ws), (m, us)] G = true := still_iff.mpr fun p hp => by
  simp at hp
  rcases hp with rfl | rfl
  · simp [h]
  · simp [h2]
/-! changes in a heap by place -/
def bump (w : W) : Option GO → Option GO
  | some (.lst r) => some (.lst (r ++ [w]))
  | o => o
/-- G' is G, but for the lists at some places that have w behind -/
def Bumped (w : W) (G : GH) (ms : List Nat) (G' : GH) : Prop := ∀ j, G'[j]? = if j ∈ ms then bump w G[j]? else G[j]?
theorem cut_nat (ws : List W) (lo hi : Nat) : cutW ws (some (lo : Int)) (some (hi : Int)) = (ws.drop lo).take (hi - lo) := by
  unfold cutW
  rw [HT.sIx_nat, HT.sIx_nat]
  apply List.ext_getElem?
  intro i
  rw [List.getElem?_take, List.getElem?_take, List.getElem?_drop, List.getElem?_drop]
  by_cases h : lo ≤ ws.length
  · rw [Nat.min_eq_left h]
    by_cases h2 : i < hi - lo
    · rw [if_pos h2]
      by_cases h3 : i < min hi ws.length - lo
      · rw [if_pos h3]
      · rw [if_neg h3, List.getElem?_eq_none (by omega)]
    · rw [if_neg h2, if_neg (by omega)]
  · rw [Nat.min_eq_right (show ws.length ≤ lo by omega), if_neg (by omega)]
    by_cases h2 : i < hi - lo
    · rw [if_pos h2, List.getElem?_eq_none (by omega)]
    · rw [if_neg h2]
theorem cut_to (ws : List W) (hi : Nat) : cutW ws none (some (hi : Int)) = ws.take hi := by
  have := cut_nat ws 0 hi
  unfold cutW at this ⊢
  rw [HT.sIx_nat, HT.sIx_nat] at this
  rw [HT.sIx_none, HT.sIx_nat]
  simpa using this
theorem cut_from (ws : List W) (lo : Nat) : cutW ws (some (lo : Int)) none = ws.drop lo := by
  unfold cutW
  rw [HT.sIx_nat, HT.sIx_none]
  by_cases h : lo ≤ ws.length
  · rw [Nat.min_eq_left h, List.take_of_length_le (by rw [List.length_drop]; omega)]
  · rw [Nat.min_eq_right (show ws.length ≤ lo by omega), List.drop_eq_nil_of_le (by omega), List.drop_eq_nil_of_le (by omega)]; simp
theorem fSl_loc {G : GH} {n : Nat} {ws : List W} (h : G[n]? = some (.lst ws)) (lo hi : Option Int) : fSl (.val (.loc n)) lo hi G = .ok (.tmp (cutW ws lo hi)) G := by
  unfold fSl
  simp [h]
theorem eq_same {G : GH} {x y : T} {d : PyData} (h1 : toDT G x = some d) (h2 : toDT G y = some d) (nd : noDict d = true) : fEq x y G = .ok (.val (.bl true)) G := by
  rw [fEq_data h1 h2, eqv_self d nd]
theorem ne_same {G : GH} {x y : T} {d : PyData} (h1 : toDT G x = some d) (h2 : toDT G y = some d) (nd : noDict d = true) : fNe x y G = .ok (.val (.bl false)) G := by
  rw [fNe_data h1 h2, eqv_self d nd]; rfl
theorem RowsAt.set {G : GH} {n j : Nat} {ms : List Nat} {rows : List (List W)} {o : GO} (h : RowsAt G n ms rows) (hn : n ≠ j) (hm : j ∉ ms) : RowsAt (G.set j o) n ms rows := by
  have e : ∀ i, i ≠ j → (G.set j o)[i]? = G[i]? := fun i hi => List.getElem?_set_ne fun z => hi z.symm
  refine ⟨by rw [e n hn]; exact h.top, paired_of h.len fun i m r e1 e2 => ?_⟩
  rw [e m fun z => hm (z ▸ List.mem_of_getElem? e1)]
  exact paired_get h.row i m r e1 e2
/-- parts of a list, k each -/
def chunks {α : Type} (k high : Nat) (is : List α) : List (List α) := (List.range high).map fun y => (is.drop (y * k)).take k
theorem chunks_len {α : Type} (k high : Nat) (is : List α) : (chunks k high is).length = high := by simp [chunks]
theorem chunks_map {α β : Type} (f : α → β) (k high : Nat) (is : List α) : chunks k high (is.map f) = (chunks k high is).map fun r => r.map f := by
  unfold chunks
  rw [List.map_map]
  apply List.map_congr_left
  intro y _
  simp [List.map_take, List.map_drop]
theorem chunks_row {α : Type} {k high : Nat} {is : List α} (h : is.length = high * k) : ∀ r ∈ chunks k high is, r.length = k := by
  intro r hr
  obtain ⟨y, hy, rfl⟩ := List.mem_map.mp hr
  rw [List.mem_range] at hy
  rw [List.length_take, List.length_drop, h]
  have : (y + 1) * k ≤ high * k := Nat.mul_le_mul_right k hy
  rw [Nat.add_mul, Nat.one_mul] at this
  omega
theorem chunks_succ {α : Type} (k high : Nat) (is : List α) : chunks k (high + 1) is = chunks k high is ++ [(is.drop (high * k)).take k] := by
  unfold chunks
  rw [List.range_succ, List.map_append]; rfl
theorem chunks_flat {α : Type} (k high : Nat) (is : List α) : (chunks k high is).flatten = is.take (high * k) := by
  induction high with
  | zero => simp [chunks]
  | succ high ih =>
    rw [chunks_succ, List.flatten_append, ih, Nat.add_mul, Nat.one_mul, List.take_add]
    simp
theorem chunks_mem {α : Type} {k high : Nat} {is : List α} {r : List α} (hr : r ∈ chunks k high is) : ∀ c ∈ r, c ∈ is := by
  intro c hc
  obtain ⟨y, _, rfl⟩ := List.mem_map.mp hr
  exact List.mem_of_mem_drop (List.mem_of_mem_take hc)
theorem toD_str {n : Nat} {G : GH} {x : Str} (h : x.cps.all (· < 0x110000) = true) : toD (n + 1) G (.str x) = some (.str x) := by
  unfold toD
  simp only [h, if_true]
@[simp] theorem toD_int (n : Nat) (G : GH) (i : Int) : toD (n + 1) G (.int i) = some (.int i) := (rfl)
@[simp] theorem toD_bl (n : Nat) (G : GH) (i : Bool) : toD (n + 1) G (.bl i) = some (.bool i) := (rfl)
@[simp] theorem toD_non (n : Nat) (G : GH) : toD (n + 1) G .non = some .none := (rfl)
@[simp] theorem toD_tup (n : Nat) (G : GH) (ws : List W) : toD (n + 1) G (.tup ws) = (mapO (toD n G) ws).map .tuple := (rfl)
@[simp] theorem mapO_nil {α β : Type} (f : α → Option β) : mapO f [] = some [] := (rfl)
@[simp] theorem mapO_cons {α β : Type} (f : α → Option β) (x : α) (xs : List α) : mapO f (x :: xs) = (f x).bind fun y => (mapO f xs).bind fun ys => some (y :: ys) := (rfl)
@[simp] theorem toDT_tup (G : GH) (ws : List W) : toDT G (.val (.tup ws)) = (mapO (toD 8 G) ws).map .tuple := (rfl)
theorem toDT_str {G : GH} {x : Str} (h : x.cps.all (· < 0x110000) = true) : toDT G (.val (.str x)) = some (.str x) := toD_str (n := 8) (G := G) h
theorem refused_ok : ("refused" : Str).cps.all (· < 0x110000) = true := by decide +kernel
theorem mapO_mono {α β : Type} {f g : α → Option β} : ∀ {xs : List α} {ys : List β}, (∀ x ∈ xs, ∀ y, f x = some y → g x = some y) → mapO f xs = some ys → mapO g xs = some ys
  | [], _, _, h => h
  | x :: xs, ys, hf, h => by
    unfold mapO at h ⊢
    cases e1 : f x with
    | none => rw [e1] at h; cases h
    | some y =>
      cases e2 : mapO f xs with
      | none => rw [e1, e2] at h; cases h
      | some zs =>
        rw [e1, e2] at h
        rw [hf x List.mem_cons_self y e1, mapO_mono (fun u hu => hf u (List.mem_cons_of_mem _ hu)) e2]
        exact h
theorem mapO_len {α β : Type} {f : α → Option β} : ∀ {xs : List α} {ys : List β}, mapO f xs = some ys → ys.length = xs.length
  | [], _, h => by cases h; rfl
  | x :: xs, ys, h => by
    unfold mapO at h
    cases e1 : f x with
    | none => rw [e1] at h; cases h
    | some y =>
      cases e2 : mapO f xs with
      | none => rw [e1, e2] at h; cases h
      | some zs =>
        rw [e1, e2] at h
        cases h
        rw [List.length_cons, List.length_cons, mapO_len e2]
theorem mapO_drop {α β : Type} {f : α → Option β} : ∀ (k : Nat) {xs : List α} {ys : List β}, mapO f xs = some ys → mapO f (xs.drop k) = some (ys.drop k)
  | 0, _, _, h => h
  | k + 1, [], _, h => by cases h; rfl
  | k + 1, x :: xs, ys, h => by
    unfold mapO at h
    cases e1 : f x with
    | none => rw [e1] at h; cases h
    | some y =>
      cases e2 : mapO f xs with
      | none => rw [e1, e2] at h; cases h
      | some zs =>
        rw [e1, e2] at h
        cases h
        exact mapO_drop k e2
theorem mapO_app {α β : Type} {f : α → Option β} : ∀ {xs zs : List α} {ys us : List β}, mapO f xs = some ys → mapO f zs = some us → mapO f (xs ++ zs) = some (ys ++ us)
  | [], _, _, _, h, h2 => by cases h; exact h2
  | x :: xs, zs, ys, us, h, h2 => by
    unfold mapO at h
    cases e1 : f x with
    | none => rw [e1] at h; cases h
    | some y =>
      cases e2 : mapO f xs with
      | none => rw [e1, e2] at h; cases h
      | some ws =>
        rw [e1, e2] at h
        cases h
        rw [List.cons_append]
        unfold mapO
        rw [e1, mapO_app e2 h2]; rfl
theorem mapO_some {α β : Type} {f : α → Option β} : ∀ {xs : List α}, (∀ x ∈ xs, ∃ y, f x = some y) → ∃ ys, mapO f xs = some ys
  | [], _ => ⟨[], rfl⟩
  | x :: xs, h => by
    obtain ⟨y, e⟩ := h x List.mem_cons_self
    obtain ⟨ys, e2⟩ := mapO_some (fun u hu => h u (List.mem_cons_of_mem _ hu))
    exact ⟨y :: ys, by unfold mapO; rw [e, e2]; rfl⟩
theorem toD_mono (xs : GH) {G : GH} : ∀ (n : Nat) (w : W) (d : PyData), toD n G w = some d → toD n (G ++ xs) w = some d
  | 0, _, _, h => by cases h
  | n + 1, w, d, h => by
    cases w with
    | non => exact h
    | bl b => exact h
    | int i => exact h
    | str x => exact h
    | tup ws =>
      rw [toD_tup] at h ⊢
      cases e : mapO (toD n G) ws with
      | none => rw [e] at h; cases h
      | some ds => rw [e] at h; rw [mapO_mono (fun u _ y => toD_mono xs n u y) e]; exact h
    | loc k =>
      have h2 : ((rdw G (.loc k)).bind fun ws => (mapO (toD n G) ws).map PyData.list) = some d := h
      show ((rdw (G ++ xs) (.loc k)).bind fun ws => (mapO (toD n (G ++ xs)) ws).map PyData.list) = some d
      rw [rdw_loc] at h2 ⊢
      cases e0 : G[k]? with
      | none => rw [e0] at h2; cases h2
      | some o =>
        rw [get_mono e0 xs]
        rw [e0] at h2
        cases o with
        | lst ws =>
          have h3 : (mapO (toD n G) ws).map PyData.list = some d := h2
          show (mapO (toD n (G ++ xs)) ws).map PyData.list = some d
          cases e : mapO (toD n G) ws with
          | none => rw [e] at h3; cases h3
          | some ds => rw [e] at h3; rw [mapO_mono (fun u _ y => toD_mono xs n u y) e]; exact h3
        | _ => cases h2
    | frl ws =>
      have h3 : (mapO (toD n G) ws).map PyData.list = some d := h
      show (mapO (toD n (G ++ xs)) ws).map PyData.list = some d
      cases e : mapO (toD n G) ws with
      | none => rw [e] at h3; cases h3
      | some ds => rw [e] at h3; rw [mapO_mono (fun u _ y => toD_mono xs n u y) e]; exact h3
    | ty b => exact h
    | cls b => exact h
    | exn c a => exact h
theorem mapD_mono (xs : GH) {G : GH} {n : Nat} {ws : List W} {ds : List PyData} (h : mapO (toD n G) ws = some ds) : mapO (toD n (G ++ xs)) ws = some ds := mapO_mono (fun u _ y => toD_mono xs n u y) h
theorem fIx_tmp {ws : List W} {k : Nat} {w : W} {G : GH} (h : ws[k]? = some w) : fIx (.tmp ws) (.val (.int k)) G = .ok (.val w) G := by
  unfold fIx
  simp [atI_nat h]
end Sy
set_option Elab.async false
set_option linter.all false
set_option maxRecDepth 100000
namespace N5
open PySem PyProof.Rows
theorem tb (n i : Nat) : n.testBit i = decide (n / 2 ^ i % 2 = 1) := Nat.testBit_eq_decide_div_mod_eq
theorem and_pow2 (n i : Nat) : n &&& 2 ^ i = if n.testBit i then 2 ^ i else 0 := by
  apply Nat.eq_of_testBit_eq
  intro j
  rw [Nat.testBit_and, Nat.testBit_two_pow]
  by_cases h : i = j
  · subst h
    cases e : n.testBit i <;> simp
  · cases e : n.testBit i <;> simp [h]
theorem band_nat (a b : Nat) : Builtin.bitAnd (a : Int) (b : Int) = ((a &&& b : Nat) : Int) := by
  first
  | exact PySem.W.os_band a b
  | exact PySem.W.os_band
def plB (k n : Nat) : List Nat := (List.range k).filter n.testBit
theorem plB_snoc (k n : Nat) : plB (k + 1) n = plB k n ++ if n.testBit k then [k] else [] := by
  unfold plB
  rw [List.range_succ, List.filter_append]
  congr 1
  cases e : n.testBit k <;> simp [e]
theorem plB_cut {n p : Nat} (h : n < 2 ^ p) (k : Nat) : plB (p + k) n = plB p n := by
  induction k with
  | zero => rfl
  | succ k ih =>
    rw [← Nat.add_assoc, plB_snoc, ih, Nat.testBit_lt_two_pow (Nat.lt_of_lt_of_le h (Nat.pow_le_pow_right (by decide) (Nat.le_add_right p k)))]
    simp
theorem plB_eq {n p k : Nat} (h : n < 2 ^ p) (hk : p ≤ k) : plB k n = plB p n := by
  have := plB_cut h (k - p)
  rwa [Nat.add_sub_cancel' hk] at this
theorem plB_mem {n k i : Nat} : i ∈ plB k n ↔ i < k ∧ n.testBit i = true := by
  unfold plB
  simp
theorem testBit_div (n i : Nat) : n / 2 ^ i % 2 = if n.testBit i then 1 else 0 := by
  rw [tb]
  by_cases h : n / 2 ^ i % 2 = 1
  · simp [h]
  · have : n / 2 ^ i % 2 = 0 := by omega
    simp [this]
theorem plB_len_succ (k n : Nat) : (plB (k + 1) n).length = n % 2 + (plB k (n / 2)).length := by
  unfold plB
  rw [List.range_succ_eq_map, List.filter_cons, List.filter_map]
  have e : (n.testBit ∘ Nat.succ) = (n / 2).testBit := by
    funext i
    show n.testBit (i + 1) = _
    rw [Nat.testBit_succ]
  have h0 := testBit_div n 0
  rw [Nat.pow_zero, Nat.div_one] at h0
  rw [e, h0]
  cases n.testBit 0 <;> simp <;> omega
theorem and_pred_odd {n : Nat} (h : n % 2 = 1) : n &&& (n - 1) = n - 1 := by
  apply Nat.eq_of_testBit_eq
  intro j
  rw [Nat.testBit_and]
  cases j with
  | zero =>
    have : (n - 1) % 2 = 0 := by omega
    simp [Nat.testBit_zero, this]
  | succ j =>
    rw [Nat.testBit_succ, Nat.testBit_succ, show (n - 1) / 2 = n / 2 by omega, Bool.and_self]
theorem and_half (a b : Nat) : (a &&& b) / 2 = a / 2 &&& b / 2 := by
  apply Nat.eq_of_testBit_eq
  intro j
  rw [Nat.testBit_and, ← Nat.testBit_succ, Nat.testBit_and, Nat.testBit_succ, Nat.testBit_succ]
theorem plB_pred {k : Nat} : ∀ {m : Nat}, 0 < m → m < 2 ^ k → (plB k (m &&& (m - 1))).length + 1 = (plB k m).length := by
  induction k with
  | zero => intro m h0 h; simp at h; omega
  | succ k ih =>
    intro m h0 h
    rw [plB_len_succ, plB_len_succ]
    have hp : m / 2 < 2 ^ k := by rw [Nat.pow_succ] at h; omega
    rcases Nat.mod_two_eq_zero_or_one m with e | e
    · have h1 : (m &&& (m - 1)) % 2 = 0 := by
        have h2 : (m &&& (m - 1)).testBit 0 = false := by rw [Nat.testBit_and, Nat.testBit_zero, e]; rfl
        rw [Nat.testBit_zero] at h2
        have := of_decide_eq_false h2
        omega
      rw [h1, and_half, show (m - 1) / 2 = m / 2 - 1 by omega, e]
      have := ih (m := m / 2) (by omega) hp
      omega
    · rw [and_pred_odd e, show (m - 1) % 2 = 0 by omega, show (m - 1) / 2 = m / 2 by omega, e]
      omega
theorem plB_len_le (k n : Nat) : (plB k n).length ≤ k := by
  unfold plB
  have := List.length_filter_le n.testBit (List.range k)
  rwa [List.length_range] at this
/-! turned -/
def revB : Nat → Nat → Nat
  | 0, _ => 0
  | k + 1, n => 2 * revB k n + n / 2 ^ k % 2
theorem revB_lt (k n : Nat) : revB k n < 2 ^ k := by
  induction k with
  | zero => exact Nat.one_pos
  | succ k ih =>
    have r : revB (k + 1) n = 2 * revB k n + n / 2 ^ k % 2 := rfl
    rw [r, Nat.pow_succ]
    have := Nat.mod_lt (n / 2 ^ k) (show 2 > 0 by decide)
    omega
theorem revB_bit (k n i : Nat) : (revB k n).testBit i = (decide (i < k) && n.testBit (k - 1 - i)) := by
  induction k generalizing i with
  | zero => simp [revB]
  | succ k ih =>
    have r : revB (k + 1) n = 2 * revB k n + n / 2 ^ k % 2 := rfl
    rw [r]
    cases i with
    | zero =>
      rw [Nat.testBit_zero, tb]
      have e : (2 * revB k n + n / 2 ^ k % 2) % 2 = n / 2 ^ k % 2 := by omega
      rw [e]
      simp
    | succ i =>
      rw [Nat.testBit_succ, show (2 * revB k n + n / 2 ^ k % 2) / 2 = revB k n by omega, ih]
      have e : k + 1 - 1 - (i + 1) = k - 1 - i := by omega
      rw [e]
      simp
theorem revB_revB {k n : Nat} (h : n < 2 ^ k) : revB k (revB k n) = n := by
  apply Nat.eq_of_testBit_eq
  intro i
  rw [revB_bit, revB_bit]
  by_cases hi : i < k
  · have h1 : k - 1 - i < k := by omega
    have h2 : k - 1 - (k - 1 - i) = i := by omega
    simp [hi, h1, h2]
  · have : n.testBit i = false := Nat.testBit_lt_two_pow (Nat.lt_of_lt_of_le h (Nat.pow_le_pow_right (by decide) (by omega)))
    simp [hi, this]
theorem revB_sum {w n : Nat} : ∀ k, k ≤ w → ((plB k n).map fun p => 2 ^ (w - 1 - p)).sum = 2 ^ (w - k) * revB k n := by
  intro k
  induction k with
  | zero => intro _; simp [plB, revB]
  | succ k ih =>
    intro hk
    have r : revB (k + 1) n = 2 * revB k n + n / 2 ^ k % 2 := rfl
    rw [plB_snoc, List.map_append, List.sum_append, ih (by omega), r, testBit_div]
    have e : w - k = (w - (k + 1)) + 1 := by omega
    have e2 : w - 1 - k = w - (k + 1) := by omega
    rw [e, Nat.pow_succ]
    cases n.testBit k
    · simp [Nat.mul_assoc]
    · simp [Nat.mul_add, Nat.mul_assoc, e2]
theorem or_bit (a b : Nat) (h : b < 2) : 2 * a ||| b = 2 * a + b := by
  have := Nat.two_pow_add_eq_or_of_lt (i := 1) (b := b) (by simpa using h) a
  simpa using this.symm
end N5
set_option Elab.async false
set_option linter.all false
set_option maxRecDepth 100000
namespace N7
def movR (wide : Nat) (right : Int) (r : Nat) : Nat := if right < 0 then r / 2 ^ (-right).toNat else r * 2 ^ right.toNat % 2 ^ wide
theorem pow_mod_zero {a b : Nat} (h : b ≤ a) : 2 ^ a % 2 ^ b = 0 := Nat.mod_eq_zero_of_dvd (Nat.pow_dvd_pow 2 h)
theorem movR_step {wide k a : Nat} {right : Int} (ha : a < 2 ^ k) (hk : k < wide) : movR wide right (a + 2 ^ k) = movR wide right a + if 0 ≤ (k : Int) + right ∧ (k : Int) + right < wide then 2 ^ ((k : Int) + right).toNat else 0 := by
  unfold movR
  by_cases hr : right < 0
  · rw [if_pos hr, if_pos hr]
    obtain ⟨m, hm⟩ := Int.eq_ofNat_of_zero_le (show 0 ≤ -right by omega)
    have hm' : right = -(m : Int) := by omega
    subst hm'
    rw [Int.neg_neg, Int.toNat_natCast]
    by_cases h0 : m ≤ k
    · rw [if_pos ⟨by omega, by omega⟩]
      have e1 : ((k : Int) + -(m : Int)).toNat = k - m := by omega
      rw [e1]
      have e2 : 2 ^ k = 2 ^ (k - m) * 2 ^ m := by rw [← Nat.pow_add]; congr 1; omega
      rw [e2, Nat.add_mul_div_right _ _ (Nat.pow_pos (by decide))]
    · rw [if_neg fun z => by have := z.1; omega]
      have h2 : 2 ^ (k + 1) ≤ 2 ^ m := Nat.pow_le_pow_right (by decide) (by omega)
      rw [Nat.pow_succ] at h2
      rw [Nat.div_eq_of_lt (by omega), Nat.div_eq_of_lt (by omega)]
  · rw [if_neg hr, if_neg hr]
    obtain ⟨m, rfl⟩ := Int.eq_ofNat_of_zero_le (show 0 ≤ right by omega)
    rw [Int.toNat_natCast, Nat.add_mul, ← Nat.pow_add]
    by_cases h0 : k + m < wide
    · rw [if_pos ⟨by omega, by omega⟩]
      have e1 : ((k : Int) + (m : Int)).toNat = k + m := by omega
      rw [e1]
      have h1 : a * 2 ^ m < 2 ^ k * 2 ^ m := Nat.mul_lt_mul_of_pos_right ha (Nat.pow_pos (by decide))
      rw [← Nat.pow_add] at h1
      have h2 : 2 ^ (k + m + 1) ≤ 2 ^ wide := Nat.pow_le_pow_right (by decide) (by omega)
      rw [Nat.pow_succ] at h2
      rw [Nat.mod_eq_of_lt (by omega), Nat.mod_eq_of_lt (by omega)]
    · rw [if_neg fun z => h0 (by have := z.2; omega)]
      rw [Nat.add_mod, pow_mod_zero (show wide ≤ k + m by omega), Nat.add_zero, Nat.mod_mod]
theorem mod_succ (r k : Nat) : r % 2 ^ (k + 1) = r % 2 ^ k + if r.testBit k then 2 ^ k else 0 := by
  rw [Nat.pow_succ, Nat.mod_mul, Nat.testBit_eq_decide_div_mod_eq]
  by_cases h : r / 2 ^ k % 2 = 1
  · simp [h]
  · have : r / 2 ^ k % 2 = 0 := by omega
    simp [this]
/-- inside the width -/
abbrev ins (wide : Nat) (right : Int) (x : Nat) : Bool := decide (0 ≤ (x : Int) + right ∧ (x : Int) + right < wide)
theorem movR_zero (wide : Nat) (right : Int) : movR wide right 0 = 0 := by
  unfold movR
  split <;> simp
theorem row_sum (wide : Nat) (right : Int) (r : Nat) : ∀ k, k ≤ wide → ((((List.range k).filter r.testBit).filter (ins wide right)).map fun (x : Nat) => 2 ^ ((x : Int) + right).toNat).sum = movR wide right (r % 2 ^ k) := by
  intro k
  induction k with
  | zero => intro _; simp [Nat.mod_one, movR_zero]
  | succ k ih =>
    intro hk
    rw [List.range_succ, List.filter_append, List.filter_append, List.map_append, List.sum_append, ih (by omega), mod_succ]
    by_cases hb : r.testBit k = true
    · rw [if_pos hb, movR_step (Nat.mod_lt _ (Nat.pow_pos (by decide))) hk]
      congr 1
      by_cases hi : 0 ≤ (k : Int) + right ∧ (k : Int) + right < wide
      · simp [hb, ins, hi]
      · simp [hb, ins, hi]
    · have hb' : r.testBit k = false := by simpa using hb
      rw [if_neg hb, Nat.add_zero]
      simp [hb']
/-! places -/
abbrev Pl := List (Nat × Nat)
def rowP (wide y r : Nat) : Pl := ((List.range wide).filter r.testBit).map fun x => (x, y)
def placesP (wide : Nat) (rows : List Nat) (k : Nat) : Pl := (List.range k).flatMap fun y => rowP wide y (rows.getD y 0)
theorem placesP_succ (wide : Nat) (rows : List Nat) (k : Nat) : placesP wide rows (k + 1) = placesP wide rows k ++ rowP wide k (rows.getD k 0) := by
  unfold placesP
  rw [List.range_succ, List.flatMap_append]
  simp
def ins2 (wide high : Nat) (right down : Int) (p : Nat × Nat) : Bool := decide (0 ≤ (p.1 : Int) + right ∧ (p.1 : Int) + right < wide) && decide (0 ≤ (p.2 : Int) + down ∧ (p.2 : Int) + down < high)
def shift (right down : Int) (p : Nat × Nat) : Nat × Nat := (((p.1 : Int) + right).toNat, ((p.2 : Int) + down).toNat)
def movedP (wide high : Nat) (right down : Int) (ps : Pl) : Pl := (ps.filter (ins2 wide high right down)).map (shift right down)
def sumAt (ps : Pl) (y : Nat) : Nat := ((ps.filter fun p => p.2 = y).map fun p => 2 ^ p.1).sum
theorem sumAt_app (ps qs : Pl) (y : Nat) : sumAt (ps ++ qs) y = sumAt ps y + sumAt qs y := by
  unfold sumAt
  rw [List.filter_append, List.map_append, List.sum_append]
theorem movedP_app (wide high : Nat) (right down : Int) (ps qs : Pl) : movedP wide high right down (ps ++ qs) = movedP wide high right down ps ++ movedP wide high right down qs := by
  unfold movedP
  rw [List.filter_append, List.map_append]
theorem sumAt_row {wide high y r y' : Nat} {right down : Int} (hr : r < 2 ^ wide) (hy : y' < high) : sumAt (movedP wide high right down (rowP wide y r)) y' = if (y : Int) + down = y' then movR wide right r else 0 := by
  unfold sumAt movedP rowP
  rw [List.filter_map, List.map_map, List.filter_map, List.filter_map, List.map_map]
  by_cases h : (y : Int) + down = y'
  · rw [if_pos h]
    have := row_sum wide right r wide (Nat.le_refl _)
    rw [Nat.mod_eq_of_lt hr] at this
    rw [← this]
    congr 1
    have e1 : ((List.range wide).filter r.testBit).filter (ins2 wide high right down ∘ fun x => (x, y)) = ((List.range wide).filter r.testBit).filter (ins wide right) := by
      apply List.filter_congr
      intro x _
      show ins2 wide high right down (x, y) = ins wide right x
      unfold ins2 ins
      rw [decide_eq_true (show 0 ≤ ((x, y).2 : Int) + down ∧ ((x, y).2 : Int) + down < high from ⟨by show 0 ≤ (y : Int) + down; omega, by show (y : Int) + down < high; omega⟩), Bool.and_true]
    rw [e1]
    have e2 : ∀ l : List Nat, l.filter (((fun p : Nat × Nat => decide (p.2 = y')) ∘ shift right down) ∘ fun x => (x, y)) = l := by
      intro l
      rw [List.filter_eq_self]
      intro x _
      show decide (((y : Int) + down).toNat = y') = true
      exact decide_eq_true (by omega)
    rw [e2]
    rfl
  · rw [if_neg h]
    have e2 : ∀ l : List Nat, (∀ x ∈ l, ins2 wide high right down (x, y) = true) → l.filter (((fun p : Nat × Nat => decide (p.2 = y')) ∘ shift right down) ∘ fun x => (x, y)) = [] := by
      intro l hl
      rw [List.filter_eq_nil_iff]
      intro x hx
      have h2 := hl x hx
      unfold ins2 at h2
      rw [Bool.and_eq_true] at h2
      have h3 := of_decide_eq_true h2.2
      show ¬ decide (((y : Int) + down).toNat = y') = true
      intro z
      have z2 := of_decide_eq_true z
      have h4 : 0 ≤ (y : Int) + down := h3.1
      exact h (by omega)
    rw [e2 ((List.filter (ins2 wide high right down ∘ fun x => (x, y)) (List.filter r.testBit (List.range wide)))) fun x hx => (List.mem_filter.mp hx).2]
    rfl
def rowAt (rows : List Nat) (y : Int) : Nat := if 0 ≤ y ∧ y < rows.length then rows.getD y.toNat 0 else 0
theorem sumAt_places {wide : Nat} {rows : List Nat} {right down : Int} {y' : Nat} (hr : ∀ r ∈ rows, r < 2 ^ wide) (hy : y' < rows.length) : ∀ k, k ≤ rows.length → sumAt (movedP wide rows.length right down (placesP wide rows k)) y' = if 0 ≤ (y' : Int) - down ∧ (y' : Int) - down < k then movR wide right (rowAt rows ((y' : Int) - down)) else 0 := by
  intro k
  induction k with
  | zero =>
    intro _
    rw [if_neg (by omega)]
    rfl
  | succ k ih =>
    intro hk
    have hkr : rows.getD k 0 < 2 ^ wide := by
      rw [List.getD_eq_getElem?_getD, List.getElem?_eq_getElem (by omega)]
      exact hr _ (List.getElem_mem _)
    rw [placesP_succ, movedP_app, sumAt_app, ih (by omega), sumAt_row hkr hy]
    by_cases h : (k : Int) + down = y'
    · have e : (y' : Int) - down = k := by omega
      rw [if_pos h, e, if_neg (by omega), if_pos ⟨by omega, by omega⟩, Nat.zero_add]
      congr 1
      unfold rowAt
      rw [if_pos ⟨by omega, by omega⟩, Int.toNat_natCast]
    · rw [if_neg h, Nat.add_zero]
      by_cases h2 : 0 ≤ (y' : Int) - down ∧ (y' : Int) - down < k
      · rw [if_pos h2, if_pos ⟨h2.1, by omega⟩]
      · rw [if_neg h2, if_neg fun z => h2 ⟨z.1, by omega⟩]
def rowsOf (ps : Pl) (high : Nat) : List Nat := (List.range high).map (sumAt ps)
def movM (wide : Nat) (right down : Int) (rows : List Nat) : List Nat := (List.range rows.length).map fun (y : Nat) => movR wide right (rowAt rows ((y : Int) - down))
theorem moved_rows {wide : Nat} {rows : List Nat} {right down : Int} (hr : ∀ r ∈ rows, r < 2 ^ wide) : rowsOf (movedP wide rows.length right down (placesP wide rows rows.length)) rows.length = movM wide right down rows := by
  unfold rowsOf movM
  apply List.map_congr_left
  intro y hy
  rw [List.mem_range] at hy
  rw [sumAt_places hr hy rows.length (Nat.le_refl _)]
  by_cases h : 0 ≤ (y : Int) - down ∧ (y : Int) - down < rows.length
  · rw [if_pos h]
  · rw [if_neg h]
    unfold rowAt
    rw [if_neg h, movR_zero]
/-- two steps to one side -/
theorem movR_two {wide r a b : Nat} : movR wide (b : Int) (movR wide (a : Int) r) = movR wide ((a + b : Nat) : Int) r := by
  unfold movR
  rw [if_neg (by omega), if_neg (by omega), if_neg (by omega), Int.toNat_natCast, Int.toNat_natCast, Int.toNat_natCast, Nat.pow_add, ← Nat.mul_assoc]
  rw [Nat.mul_mod (r * 2 ^ a % 2 ^ wide), Nat.mod_mod, ← Nat.mul_mod]
theorem movM_len (wide : Nat) (right down : Int) (rows : List Nat) : (movM wide right down rows).length = rows.length := by simp [movM]
theorem movM_two {wide a b c d : Nat} {rows : List Nat} : movM wide (b : Int) (d : Int) (movM wide (a : Int) (c : Int) rows) = movM wide ((a + b : Nat) : Int) ((c + d : Nat) : Int) rows := by
  have hl := movM_len wide (a : Int) (c : Int) rows
  show (List.range (movM wide (a : Int) (c : Int) rows).length).map _ = (List.range rows.length).map _
  rw [hl]
  apply List.map_congr_left
  intro y hy
  rw [List.mem_range] at hy
  by_cases h : d ≤ y
  · have e1 : rowAt (movM wide (a : Int) (c : Int) rows) ((y : Int) - (d : Int)) = movR wide a (rowAt rows ((y - d : Nat) - (c : Int))) := by
      unfold rowAt
      rw [hl, if_pos ⟨by omega, by omega⟩]
      have e2 : ((y : Int) - (d : Int)).toNat = y - d := by omega
      rw [e2, List.getD_eq_getElem?_getD]
      unfold movM
      rw [List.getElem?_map, List.getElem?_range (by omega)]
      rfl
    rw [e1, movR_two]
    congr 2
    omega
  · have e1 : rowAt (movM wide (a : Int) (c : Int) rows) ((y : Int) - (d : Int)) = 0 := by
      unfold rowAt
      rw [if_neg (by omega)]
    have e2 : rowAt rows ((y : Int) - ((c + d : Nat) : Int)) = 0 := by
      unfold rowAt
      rw [if_neg (by omega)]
    rw [e1, e2, movR_zero, movR_zero]
end N7
set_option linter.all false
set_option maxRecDepth 100000
namespace N6
open N5 N7
/-! numbers of the bits for which p holds -/
def sumF (p : Nat → Bool) (k : Nat) : Nat := (((List.range k).filter p).map fun x => 2 ^ x).sum
theorem sumF_succ (p : Nat → Bool) (k : Nat) : sumF p (k + 1) = sumF p k + if p k then 2 ^ k else 0 := by
  unfold sumF
  rw [List.range_succ, List.filter_append, List.map_append, List.sum_append]
  cases h : p k <;> simp [h]
theorem sumF_lt (p : Nat → Bool) : ∀ k, sumF p k < 2 ^ k
  | 0 => by simp [sumF]
  | k + 1 => by
    rw [sumF_succ, Nat.pow_succ]
    have := sumF_lt p k
    split <;> omega
theorem sumF_bit (p : Nat → Bool) (i : Nat) : ∀ k, (sumF p k).testBit i = (decide (i < k) && p i)
  | 0 => by simp [sumF]
  | k + 1 => by
    rw [sumF_succ]
    have ih := sumF_bit p i k
    have hl := sumF_lt p k
    cases hp : p k with
    | false =>
      simp only [Bool.false_eq_true, if_false, Nat.add_zero, ih]
      by_cases e : i = k
      · subst e; simp [hp]
      · by_cases h : i < k
        · simp [h, show i < k + 1 by omega]
        · simp [h, show ¬ i < k + 1 by omega]
    | true =>
      simp only [if_true]
      rw [Nat.add_comm, show 2 ^ k + sumF p k = 2 ^ k ||| sumF p k by have := Nat.two_pow_add_eq_or_of_lt hl 1; rwa [Nat.mul_one] at this, Nat.testBit_or, ih, Nat.testBit_two_pow]
      by_cases e : i = k
      · subst e; simp [hp]
      · by_cases h : i < k
        · simp [h, show i < k + 1 by omega, show ¬ k = i by omega]
        · simp [h, show ¬ i < k + 1 by omega, show ¬ k = i by omega]
theorem sumF_add {p q : Nat → Bool} : ∀ {k : Nat}, (∀ x, x < k → (p x && q x) = false) → sumF p k + sumF q k = sumF (fun x => p x || q x) k
  | 0, _ => rfl
  | k + 1, h => by
    have ih := sumF_add (p := p) (q := q) (k := k) fun x hx => h x (by omega)
    rw [sumF_succ, sumF_succ, sumF_succ, ← ih]
    have := h k (by omega)
    cases hp : p k <;> cases hq : q k <;> simp_all <;> omega
theorem sumF_of {p : Nat → Bool} {r wide : Nat} (h : r < 2 ^ wide) (hp : ∀ x, x < wide → p x = r.testBit x) : sumF p wide = r := by
  refine Nat.eq_of_testBit_eq fun i => ?_
  rw [sumF_bit]
  by_cases hi : i < wide
  · rw [hp i hi]; simp [hi]
  · have : r.testBit i = false := Nat.testBit_lt_two_pow (Nat.lt_of_lt_of_le h (Nat.pow_le_pow_right (by decide) (by omega)))
    simp [hi, this]
theorem sumAt_rowF (P : Nat × Nat → Bool) (wide y r y' : Nat) : sumAt ((rowP wide y r).filter P) y' = if y = y' then sumF (fun x => r.testBit x && P (x, y)) wide else 0 := by
  unfold sumAt rowP sumF
  rw [List.filter_filter, List.filter_map, List.map_map, List.filter_filter]
  by_cases h : y = y'
  · subst h
    rw [if_pos rfl]
    congr 1
    rw [show (fun x => ((fun p : Nat × Nat => decide (p.2 = y) && P p) ∘ fun x => (x, y)) x && r.testBit x) = fun x => r.testBit x && P (x, y) from funext fun x => by simp [Bool.and_comm]]
    rfl
  · rw [if_neg h]
    rw [show (fun x => ((fun p : Nat × Nat => decide (p.2 = y') && P p) ∘ fun x => (x, y)) x && r.testBit x) = fun _ => false from funext fun x => by simp [h]]
    rw [List.filter_eq_nil_iff.mpr (by simp)]
    rfl
theorem sumAt_filter (P : Nat × Nat → Bool) (wide : Nat) (rows : List Nat) (y : Nat) : ∀ k, sumAt ((placesP wide rows k).filter P) y = if y < k then sumF (fun x => (rows.getD y 0).testBit x && P (x, y)) wide else 0
  | 0 => by simp [placesP, sumAt]
  | k + 1 => by
    rw [placesP_succ, List.filter_append, sumAt_app, sumAt_filter P wide rows y k, sumAt_rowF]
    by_cases e : k = y
    · subst e
      rw [if_neg (Nat.lt_irrefl _), if_pos rfl, if_pos (Nat.lt_succ_self _), Nat.zero_add]
    · rw [if_neg e, Nat.add_zero]
      by_cases h : y < k
      · rw [if_pos h, if_pos (by omega)]
      · rw [if_neg h, if_neg (by omega)]
theorem mem_row {wide y r : Nat} {p : Nat × Nat} : p ∈ rowP wide y r ↔ p.2 = y ∧ p.1 < wide ∧ r.testBit p.1 = true := by
  obtain ⟨a, b⟩ := p
  simp only [rowP, List.mem_map, List.mem_filter, List.mem_range, Prod.mk.injEq]
  constructor
  · rintro ⟨x, ⟨h1, h2⟩, rfl, rfl⟩
    exact ⟨rfl, h1, h2⟩
  · rintro ⟨rfl, h1, h2⟩
    exact ⟨a, ⟨h1, h2⟩, rfl, rfl⟩
theorem mem_places {wide : Nat} {rows : List Nat} {k : Nat} {p : Nat × Nat} : p ∈ placesP wide rows k ↔ p.2 < k ∧ p.1 < wide ∧ (rows.getD p.2 0).testBit p.1 = true := by
  simp only [placesP, List.mem_flatMap, List.mem_range, mem_row]
  constructor
  · rintro ⟨y, hy, rfl, h⟩
    exact ⟨hy, h⟩
  · rintro ⟨hy, h⟩
    exact ⟨p.2, hy, rfl, h⟩
/-! what is due -/
def opN : Nat → Nat → Nat → Nat
  | 0, a, b => a &&& b
  | 1, a, b => a ||| b
  | 2, a, b => a ^^^ b
  | _, a, b => a ^^^ (a &&& b)
def dueP (w : Nat) (os ts : Pl) : Pl := match w with
  | 0 => os.filter fun p => decide (p ∈ ts)
  | 1 => os ++ ts.filter fun p => !decide (p ∈ os)
  | 2 => (os.filter fun p => !decide (p ∈ ts)) ++ ts.filter fun p => !decide (p ∈ os)
  | _ => os.filter fun p => !decide (p ∈ ts)
theorem opN_lt {w a b n : Nat} (ha : a < 2 ^ n) (hb : b < 2 ^ n) : opN w a b < 2 ^ n := by
  unfold opN
  split
  · exact Nat.and_lt_two_pow _ hb
  · exact Nat.or_lt_two_pow ha hb
  · exact Nat.xor_lt_two_pow ha hb
  · exact Nat.xor_lt_two_pow ha (Nat.and_lt_two_pow _ hb)
theorem getD_lt {wide : Nat} {rows : List Nat} (h : ∀ r ∈ rows, r < 2 ^ wide) (y : Nat) : rows.getD y 0 < 2 ^ wide := by
  rw [List.getD_eq_getElem?_getD]
  cases e : rows[y]? with
  | none => exact Nat.pow_pos (by decide)
  | some r => exact h r (List.mem_of_getElem? e)
theorem sumAt_due {w wide : Nat} {rows us : List Nat} {y n : Nat} (h1 : ∀ r ∈ rows, r < 2 ^ wide) (h2 : ∀ r ∈ us, r < 2 ^ wide) (hy : y < n) :
    sumAt (dueP w (placesP wide rows n) (placesP wide us n)) y = opN w (rows.getD y 0) (us.getD y 0) := by
  have e := fun (P : Nat × Nat → Bool) (rs : List Nat) => sumAt_filter P wide rs y n
  simp only [if_pos hy] at e
  have e0 : sumAt (placesP wide rows n) y = sumF (fun x => (rows.getD y 0).testBit x && true) wide := by
    have := e (fun _ => true) rows
    rwa [List.filter_eq_self.mpr (by simp)] at this
  have a1 := getD_lt h1 y
  have a2 := getD_lt h2 y
  have m1 : ∀ x, x < wide → decide ((x, y) ∈ placesP wide rows n) = (rows.getD y 0).testBit x := fun x hx => by
    simp [mem_places, hy, hx]
  have m2 : ∀ x, x < wide → decide ((x, y) ∈ placesP wide us n) = (us.getD y 0).testBit x := fun x hx => by
    simp [mem_places, hy, hx]
  have hlt := opN_lt (w := w) a1 a2
  revert hlt
  match w with
  | 0 =>
    intro hlt
    show sumAt (List.filter _ _) y = _ &&& _
    rw [e]
    exact sumF_of hlt fun x hx => by rw [m2 x hx]; exact (Nat.testBit_and ..).symm
  | 1 =>
    intro hlt
    show sumAt (_ ++ List.filter _ _) y = _ ||| _
    rw [sumAt_app, e0, e, sumF_add fun x hx => by rw [m1 x hx]; cases (rows.getD y 0).testBit x <;> simp]
    exact sumF_of hlt fun x hx => by
      rw [m1 x hx]
      refine Eq.trans ?_ (Nat.testBit_or ..).symm
      cases (rows.getD y 0).testBit x <;> simp
  | 2 =>
    intro hlt
    show sumAt (List.filter _ _ ++ List.filter _ _) y = _ ^^^ _
    rw [sumAt_app, e, e, sumF_add fun x hx => by rw [m1 x hx, m2 x hx]; cases (rows.getD y 0).testBit x <;> simp]
    exact sumF_of hlt fun x hx => by
      rw [m1 x hx, m2 x hx]
      refine Eq.trans ?_ (Nat.testBit_xor ..).symm
      cases (rows.getD y 0).testBit x <;> simp
  | w + 3 =>
    intro hlt
    show sumAt (List.filter _ _) y = _ ^^^ (_ &&& _)
    rw [e]
    exact sumF_of hlt fun x hx => by
      rw [m2 x hx]
      refine Eq.trans ?_ (Nat.testBit_xor ..).symm
      rw [Nat.testBit_and]
      cases (rows.getD y 0).testBit x <;> simp
theorem rowsOf_due {w wide : Nat} {rows us : List Nat} (h1 : ∀ r ∈ rows, r < 2 ^ wide) (h2 : ∀ r ∈ us, r < 2 ^ wide) (hl : us.length = rows.length) :
    rowsOf (dueP w (placesP wide rows rows.length) (placesP wide us us.length)) rows.length = List.zipWith (opN w) rows us := by
  refine List.ext_getElem? fun y => ?_
  unfold rowsOf
  rw [List.getElem?_map, List.getElem?_zipWith, hl]
  by_cases hy : y < rows.length
  · rw [List.getElem?_range hy, Option.map_some, sumAt_due h1 h2 hy, List.getElem?_eq_getElem hy, List.getElem?_eq_getElem (by omega : y < us.length)]
    simp [List.getD_eq_getElem?_getD, hy, show y < us.length by omega]
  · rw [List.getElem?_eq_none (by simp; omega), List.getElem?_eq_none (by omega : rows.length ≤ y)]
    rfl
end N6
set_option Elab.async false
set_option linter.all false
set_option maxRecDepth 100000
set_option maxHeartbeats 4000000
namespace Lk06
open PySem PySem.Spec PyProof.Rows L2 Sy
def topS (i : Nat) : Stmt := PySem.Challenge.pw_cellfolio_k06_masks_by_places.main.body.getD i (.Pass ⟨0, 0, 0, 0⟩)
abbrev names : List Str := ["FolioError", "BadPicture", "BadCell", "BadSize", "OutOfPlace", "BadMask", "BadRule", "BadEdge"]
abbrev it : ITab := [(3, .own 2, false), (3, .own 7, false), (3, .own 5, false), (3, .own 1, false), (3, .own 6, false), (3, .own 3, true), (3, .own 4, false), (3, .ty "ValueError", true), (5, .own 2, false), (5, .own 7, false), (5, .own 5, true), (5, .own 1, false), (5, .own 6, false), (5, .own 3, false), (5, .own 4, false), (5, .ty "ValueError", true)]
abbrev xt : XTab := [(3, 0, true), (5, 0, true)]
structure Tx (K : PySem.W.Frag) (mg : Str → Option Value) (ca : Nat → Addr) : Prop where
  n_ValueError : mg "ValueError" = none
  n_all : mg "all" = none
  n_bool : mg "bool" = none
  n_enumerate : mg "enumerate" = none
  n_int : mg "int" = none
  n_isinstance : mg "isinstance" = none
  n_len : mg "len" = none
  n_list : mg "list" = none
  n_min : mg "min" = none
  n_range : mg "range" = none
  n_str : mg "str" = none
  n_sum : mg "sum" = none
  n_tuple : mg "tuple" = none
  n_zip : mg "zip" = none
  k_MOST_SIDE : KonW K mg ca "MOST_SIDE" (W.int 24)
  g_FolioError : mg "FolioError" = some (.ref (ca 0))
  g_BadPicture : mg "BadPicture" = some (.ref (ca 1))
  g_BadCell : mg "BadCell" = some (.ref (ca 2))
  g_BadSize : mg "BadSize" = some (.ref (ca 3))
  g_OutOfPlace : mg "OutOfPlace" = some (.ref (ca 4))
  g_BadMask : mg "BadMask" = some (.ref (ca 5))
  g_BadRule : mg "BadRule" = some (.ref (ca 6))
  g_BadEdge : mg "BadEdge" = some (.ref (ca 7))
  e_BadSize : ExW K mg ca "BadSize" 3
  e_BadMask : ExW K mg ca "BadMask" 5
  E : Exs K ca it xt
abbrev c_MOST_SIDE : M T := mC (W.int 24)
section
variable {P : Program} {w : World} {K : PySem.W.Frag} {mg : Str → Option Value} {base : Heap} {ca : Nat → Addr}
abbrev s_bit_at : Stmt := topS 1
abbrev N_bit_at : List Str := ["number", "place"]
abbrev P_bit_at : List Str := ["number", "place"]
theorem sc_bit_at : FnScope N_bit_at P_bit_at (defScope s_bit_at) := ⟨rfl, rfl, rfl, by decide +kernel, rfl, by decide +kernel, by decide +kernel⟩
noncomputable def b_bit_at : MS :=
  (sRet (mBin fEq (mBin fAnd (mBin fShr (mVar 0) (mVar 1)) (mC (.int 1))) (mC (.int 1))))
noncomputable def m_bit_at : List W → GH → R W := mDef 2 b_bit_at
theorem ok_bit_at {f : Addr} {fd : FuncData} {dvs : List V} (F : FunD K "bit_at" "bit_at" (defArgs s_bit_at) (defBody s_bit_at) (defScope s_bit_at) dvs [] f fd) (T : Tx K mg ca) : FnOk P w K mg base (L2N.CX P w) 1 f fd P_bit_at (spM K ca 2 m_bit_at) := by
  refine def_okD (N := N_bit_at) F sc_bit_at fun cdv A outer s H E hr => ?_
  have hu := hr.units
  have hu5 := hu_five hr
  have tk : L2N.Takes (cxOf (L2N.CX P w) P w K mg base N_bit_at "bit_at" (defScope s_bit_at) f cdv A outer s H E) (fun c d _ H => E c d H) := L2N.takes_of rfl rfl rfl rfl
  exact (b_one (s_ret (s_cmp (op_eqD hu) says_eq (s_bin op_and says_band (s_bin op_shr says_shr (s_var (i := 0) rfl (.inl rfl)) (s_var (i := 1) rfl (.inl rfl))) s_int) s_int (nomark _))))
abbrev s_many_bits : Stmt := topS 2
abbrev N_many_bits : List Str := ["number", "found"]
abbrev P_many_bits : List Str := ["number"]
theorem sc_many_bits : FnScope N_many_bits P_many_bits (defScope s_many_bits) := ⟨rfl, rfl, rfl, by decide +kernel, rfl, by decide +kernel, by decide +kernel⟩
noncomputable def b_many_bits : MS :=
  (sSeq (sSet 1 (mC (.int 0))) (sSeq (whileF (mB (mBin fGt (mVar 0) (mC (.int 0)))) (sSeq (sSet 0 (mBin fAnd (mVar 0) (mBin fSub (mVar 0) (mC (.int 1))))) (sAug 1 fAugAdd (mC (.int 1)))) 100000) (sRet (mVar 1))))
noncomputable def m_many_bits : List W → GH → R W := mDef 2 b_many_bits
theorem ok_many_bits {f : Addr} {fd : FuncData} {dvs : List V} (F : FunD K "many_bits" "many_bits" (defArgs s_many_bits) (defBody s_many_bits) (defScope s_many_bits) dvs [] f fd) (T : Tx K mg ca) : FnOk P w K mg base (L2N.CX P w) 1 f fd P_many_bits (spM K ca 1 m_many_bits) := by
  refine def_okD (N := N_many_bits) F sc_many_bits fun cdv A outer s H E hr => ?_
  have hu := hr.units
  have hu5 := hu_five hr
  have tk : L2N.Takes (cxOf (L2N.CX P w) P w K mg base N_many_bits "many_bits" (defScope s_many_bits) f cdv A outer s H E) (fun c d _ H => E c d H) := L2N.takes_of rfl rfl rfl rfl
  exact (b_cons (s_set (i := 1) sc_many_bits.nd rfl (.inl rfl) s_int) (b_cons (s_while (passes_of rfl) (s_testCmp op_gt says_C (s_var (i := 0) rfl (.inl rfl)) s_int (nomark _)) (b_cons (s_set (i := 0) sc_many_bits.nd rfl (.inl rfl) (s_bin op_and says_band (s_var (i := 0) rfl (.inl rfl)) (s_bin op_sub says_sub (s_var (i := 0) rfl (.inl rfl)) s_int))) (b_one (s_aug (i := 1) sc_many_bits.nd rfl (.inl rfl) s_int aug_add says_augAdd)))) (b_one (s_ret (s_var (i := 1) rfl (.inl rfl))))))
abbrev s_places_of_bits : Stmt := topS 3
abbrev N_places_of_bits : List Str := ["number", "found", "place"]
abbrev P_places_of_bits : List Str := ["number"]
theorem sc_places_of_bits : FnScope N_places_of_bits P_places_of_bits (defScope s_places_of_bits) := ⟨rfl, rfl, rfl, by decide +kernel, rfl, by decide +kernel, by decide +kernel⟩
noncomputable def b_places_of_bits : MS :=
  (sSeq (sSet 1 (mLst mNil)) (sSeq (sSet 2 (mC (.int 0))) (sSeq (whileF (mB (mBin fGt (mBin fShr (mVar 0) (mVar 2)) (mC (.int 0)))) (sSeq (sIf (mTru (mCall m_bit_at [] (mCons (mVar 0) (mCons (mVar 2) mNil)))) (sDrop (mMtF isLst fApp (mVar 1) (mCons (mVar 2) mNil))) sNext) (sAug 2 fAugAdd (mC (.int 1)))) 100000) (sRet (mVar 1)))))
noncomputable def m_places_of_bits : List W → GH → R W := mDef 3 b_places_of_bits
theorem ok_places_of_bits {f : Addr} {fd : FuncData} {dvs : List V} (F : FunD K "places_of_bits" "places_of_bits" (defArgs s_places_of_bits) (defBody s_places_of_bits) (defScope s_places_of_bits) dvs [] f fd) (T : Tx K mg ca) (C_bit_at : Callable P w K mg base ca 1 "bit_at" P_bit_at [] m_bit_at) : FnOk P w K mg base (L2N.CX P w) 2 f fd P_places_of_bits (spM K ca 1 m_places_of_bits) := by
  refine def_okD (N := N_places_of_bits) F sc_places_of_bits fun cdv A outer s H E hr => ?_
  have hu := hr.units
  have hu5 := hu_five hr
  have tk : L2N.Takes (cxOf (L2N.CX P w) P w K mg base N_places_of_bits "places_of_bits" (defScope s_places_of_bits) f cdv A outer s H E) (fun c d _ H => E c d H) := L2N.takes_of rfl rfl rfl rfl
  exact (b_cons (s_set (i := 1) sc_places_of_bits.nd rfl (.inl rfl) (s_lst a_nil)) (b_cons (s_set (i := 2) sc_places_of_bits.nd rfl (.inl rfl) s_int) (b_cons (s_while (passes_of rfl) (s_testCmp op_gt says_C (s_bin op_shr says_shr (s_var (i := 0) rfl (.inl rfl)) (s_var (i := 2) rfl (.inl rfl))) s_int (nomark _)) (b_cons (s_if (s_truth (s_call C_bit_at (hr.mono (by decide)) (by rfl) tk (a_cons (s_var (i := 0) rfl (.inl rfl)) (a_cons (s_var (i := 2) rfl (.inl rfl)) a_nil)) (len_dws (len_cons (len_cons len_nil)) rfl))) (b_one (s_expr (s_mtF PySem.F.plainAttrs_list PySem.F.slot_list_append PySem.F.type_list_append mt_append says_app ty_list (s_var (i := 1) rfl (.inl rfl)) (a_cons (s_var (i := 2) rfl (.inl rfl)) a_nil)))) b_nil) (b_one (s_aug (i := 2) sc_places_of_bits.nd rfl (.inl rfl) s_int aug_add says_augAdd)))) (b_one (s_ret (s_var (i := 1) rfl (.inl rfl)))))))
abbrev s_is_among : Stmt := topS 15
abbrev N_is_among : List Str := ["thing", "least", "most"]
abbrev P_is_among : List Str := ["thing", "least", "most"]
theorem sc_is_among : FnScope N_is_among P_is_among (defScope s_is_among) := ⟨rfl, rfl, rfl, by decide +kernel, rfl, by decide +kernel, by decide +kernel⟩
noncomputable def b_is_among : MS :=
  (sRet (mAndV (mBi fIsi (mConsT (mVar 0) (mConsT (mC (.ty "int")) mNilT))) (mAndV (mNotV (mBi fIsi (mConsT (mVar 0) (mConsT (mC (.ty "bool")) mNilT)))) (mChain fLe fLe (mVar 1) (mVar 0) (mVar 2)))))
noncomputable def m_is_among : List W → GH → R W := mDef 3 b_is_among
theorem ok_is_among {f : Addr} {fd : FuncData} {dvs : List V} (F : FunD K "is_among" "is_among" (defArgs s_is_among) (defBody s_is_among) (defScope s_is_among) dvs [] f fd) (T : Tx K mg ca) : FnOk P w K mg base (L2N.CX P w) 1 f fd P_is_among (spM K ca 3 m_is_among) := by
  refine def_okD (N := N_is_among) F sc_is_among fun cdv A outer s H E hr => ?_
  have hu := hr.units
  have hu5 := hu_five hr
  have tk : L2N.Takes (cxOf (L2N.CX P w) P w K mg base N_is_among "is_among" (defScope s_is_among) f cdv A outer s H E) (fun c d _ H => E c d H) := L2N.takes_of rfl rfl rfl rfl
  exact (b_one (s_ret (v_and (s_bi call_isi says_isi (by rfl) T.n_isinstance bt_isinstance (c_cons (s_var (i := 0) rfl (.inl rfl)) (c_cons (s_ty (by rfl) T.n_int bt_int) c_nil))) (v_and (v_not (s_bi call_isi says_isi (by rfl) T.n_isinstance bt_isinstance (c_cons (s_var (i := 0) rfl (.inl rfl)) (c_cons (s_ty (by rfl) T.n_bool bt_bool) c_nil)))) (v_one (s_chain op_le op_le says_C says_C (s_var (i := 1) rfl (.inl rfl)) (s_var (i := 0) rfl (.inl rfl)) (s_var (i := 2) rfl (.inl rfl))))))))
abbrev s_need_sides : Stmt := topS 16
abbrev N_need_sides : List Str := ["wide", "high"]
abbrev P_need_sides : List Str := ["wide", "high"]
theorem sc_need_sides : FnScope N_need_sides P_need_sides (defScope s_need_sides) := ⟨rfl, rfl, rfl, by decide +kernel, rfl, by decide +kernel, by decide +kernel⟩
noncomputable def b_need_sides : MS :=
  (sIf (mOr (mNot (mTru (mCall m_is_among [] (mCons (mVar 0) (mCons (mC (.int 1)) (mCons c_MOST_SIDE mNil)))))) (mNot (mTru (mCall m_is_among [] (mCons (mVar 1) (mCons (mC (.int 1)) (mCons c_MOST_SIDE mNil))))))) (sRaise 3) sNext)
noncomputable def m_need_sides : List W → GH → R W := mDef 2 b_need_sides
theorem ok_need_sides {f : Addr} {fd : FuncData} {dvs : List V} (F : FunD K "need_sides" "need_sides" (defArgs s_need_sides) (defBody s_need_sides) (defScope s_need_sides) dvs [] f fd) (T : Tx K mg ca) (C_is_among : Callable P w K mg base ca 1 "is_among" P_is_among [] m_is_among) : FnOk P w K mg base (L2N.CX P w) 2 f fd P_need_sides (spM K ca 2 m_need_sides) := by
  refine def_okD (N := N_need_sides) F sc_need_sides fun cdv A outer s H E hr => ?_
  have hu := hr.units
  have hu5 := hu_five hr
  have tk : L2N.Takes (cxOf (L2N.CX P w) P w K mg base N_need_sides "need_sides" (defScope s_need_sides) f cdv A outer s H E) (fun c d _ H => E c d H) := L2N.takes_of rfl rfl rfl rfl
  exact (b_one (s_if (PW.pt (w_or (s_tnot (s_truth (s_call C_is_among (hr.mono (by decide)) (by rfl) tk (a_cons (s_var (i := 0) rfl (.inl rfl)) (a_cons s_int (a_cons (s_glob (by rfl) T.k_MOST_SIDE) a_nil))) (len_dws (len_cons (len_cons (len_cons len_nil))) rfl)))) (w_or1 (s_tnot (s_truth (s_call C_is_among (hr.mono (by decide)) (by rfl) tk (a_cons (s_var (i := 1) rfl (.inl rfl)) (a_cons s_int (a_cons (s_glob (by rfl) T.k_MOST_SIDE) a_nil))) (len_dws (len_cons (len_cons (len_cons len_nil))) rfl))))))) (b_one (s_raise rfl tk T.e_BadSize (by rfl))) b_nil))
abbrev s_is_mask : Stmt := topS 18
abbrev N_is_mask : List Str := ["thing", "row"]
abbrev P_is_mask : List Str := ["thing"]
theorem sc_is_mask : FnScope N_is_mask P_is_mask (defScope s_is_mask) := ⟨rfl, rfl, rfl, by decide +kernel, rfl, by decide +kernel, by decide +kernel⟩
noncomputable def b_is_mask : MS :=
  (sSeq (sIf (mOr (mNot (mTru (mBi fIsi (mConsT (mVar 0) (mConsT (mC (.ty "tuple")) mNilT))))) (mOr (mB (mBin fNe (mBi fLen (mConsT (mVar 0) mNilT)) (mC (.int 2)))) (mNot (mTru (mCall m_is_among [] (mCons (mBin fIx (mVar 0) (mC (.int 0))) (mCons (mC (.int 1)) (mCons c_MOST_SIDE mNil)))))))) (sRet (mC (.bl false))) sNext) (sSeq (sIf (mOr (mNot (mTru (mBi fIsi (mConsT (mBin fIx (mVar 0) (mC (.int 1))) (mConsT (mC (.ty "tuple")) mNilT))))) (mNot (mB (mChain fLe fLe (mC (.int 1)) (mBi fLen (mConsT (mBin fIx (mVar 0) (mC (.int 1))) mNilT)) c_MOST_SIDE)))) (sRet (mC (.bl false))) sNext) (sRet (mBi fAll (mConsT (mComp (miA (mBin fIx (mVar 0) (mC (.int 1)))) (gN 1) mYes (mCall m_is_among [] (mCons (mVar 1) (mCons (mC (.int 0)) (mCons (mBin fSub (mBin fShl (mC (.int 1)) (mBin fIx (mVar 0) (mC (.int 0)))) (mC (.int 1))) mNil)))) [1]) mNilT)))))
noncomputable def m_is_mask : List W → GH → R W := mDef 2 b_is_mask
theorem ok_is_mask {f : Addr} {fd : FuncData} {dvs : List V} (F : FunD K "is_mask" "is_mask" (defArgs s_is_mask) (defBody s_is_mask) (defScope s_is_mask) dvs [] f fd) (T : Tx K mg ca) (C_is_among : Callable P w K mg base ca 1 "is_among" P_is_among [] m_is_among) : FnOk P w K mg base (L2N.CX P w) 2 f fd P_is_mask (spM K ca 1 m_is_mask) := by
  refine def_okD (N := N_is_mask) F sc_is_mask fun cdv A outer s H E hr => ?_
  have hu := hr.units
  have hu5 := hu_five hr
  have tk : L2N.Takes (cxOf (L2N.CX P w) P w K mg base N_is_mask "is_mask" (defScope s_is_mask) f cdv A outer s H E) (fun c d _ H => E c d H) := L2N.takes_of rfl rfl rfl rfl
  exact (b_cons (s_if (PW.pt (w_or (s_tnot (s_truth (s_bi call_isi says_isi (by rfl) T.n_isinstance bt_isinstance (c_cons (s_var (i := 0) rfl (.inr (.inl rfl))) (c_cons (s_ty (by rfl) T.n_tuple bt_tuple) c_nil))))) (w_or (s_testCmp (op_neD hu) says_ne (s_bi call_len says_len (by rfl) T.n_len bt_len (c_cons (s_var (i := 0) rfl (.inr (.inl rfl))) c_nil)) s_int (nomark _)) (w_or1 (s_tnot (s_truth (s_call C_is_among (hr.mono (by decide)) (by rfl) tk (a_cons (s_ix (s_var (i := 0) rfl (.inr (.inl rfl))) s_int) (a_cons s_int (a_cons (s_glob (by rfl) T.k_MOST_SIDE) a_nil))) (len_dws (len_cons (len_cons (len_cons len_nil))) rfl)))))))) (b_one (s_ret s_bl)) b_nil) (b_cons (s_if (PW.pt (w_or (s_tnot (s_truth (s_bi call_isi says_isi (by rfl) T.n_isinstance bt_isinstance (c_cons (s_ix (s_var (i := 0) rfl (.inr (.inl rfl))) s_int) (c_cons (s_ty (by rfl) T.n_tuple bt_tuple) c_nil))))) (w_or1 (s_tnot (s_testChain op_le op_le says_C says_C s_int (s_bi call_len says_len (by rfl) T.n_len bt_len (c_cons (s_ix (s_var (i := 0) rfl (.inr (.inl rfl))) s_int) c_nil)) (s_glob (by rfl) T.k_MOST_SIDE)))))) (b_one (s_ret s_bl)) b_nil) (b_one (s_ret (s_bi (cr_all rfl) says_all (by rfl) T.n_all bt_all (c_cons (s_lc (own := [("row", 1)]) rfl sc_is_mask.nd (i_any (s_ix (s_var (i := 0) rfl (.inr (.inl rfl))) s_int)) (blkOk_by (N := N_is_mask) (sc := defScope s_is_mask) (by decide +kernel)) (fun _ _ _ _ _ => (pg_name (i := 1) sc_is_mask.nd rfl (by first | exact .inl rfl | exact .inr rfl))) tgt_name (own_name (by decide)) (fun _ _ _ _ _ => ts_nil) (fun _ _ _ _ _ => (s_call C_is_among (hr.mono (by decide)) (by rfl) takesN (a_cons (s_var (i := 1) rfl (by first | exact .inl rfl | exact .inr (.inl rfl))) (a_cons s_int (a_cons (s_bin op_sub says_sub (s_bin op_shlW says_shl s_int (s_ix (s_var (i := 0) rfl (by first | exact .inr (.inl rfl) | exact .inr (.inr rfl) | exact .inl rfl)) s_int)) s_int) a_nil))) (len_dws (len_cons (len_cons (len_cons len_nil))) rfl)))) c_nil))))))
abbrev s_need_masks : Stmt := topS 19
abbrev N_need_masks : List Str := ["masks", "mask"]
abbrev P_need_masks : List Str := ["masks"]
theorem sc_need_masks : FnScope N_need_masks P_need_masks (defScope s_need_masks) := ⟨rfl, rfl, rfl, by decide +kernel, rfl, by decide +kernel, by decide +kernel⟩
noncomputable def b_need_masks : MS :=
  (sSeq (sFor (miA (mVar 0)) (gN 1) (sIf (mNot (mTru (mCall m_is_mask [] (mCons (mVar 1) mNil)))) (sRaise 5) sNext)) (sFor (miA (mVar 0)) (gN 1) (sIf (mOr (mB (mBin fNe (mBin fIx (mVar 1) (mC (.int 0))) (mBin fIx (mBin fIx (mVar 0) (mC (.int 0))) (mC (.int 0))))) (mB (mBin fNe (mBi fLen (mConsT (mBin fIx (mVar 1) (mC (.int 1))) mNilT)) (mBi fLen (mConsT (mBin fIx (mBin fIx (mVar 0) (mC (.int 0))) (mC (.int 1))) mNilT))))) (sRaise 3) sNext)))
noncomputable def m_need_masks : List W → GH → R W := mDef 2 b_need_masks
theorem ok_need_masks {f : Addr} {fd : FuncData} {dvs : List V} (F : FunD K "need_masks" "need_masks" (defArgs s_need_masks) (defBody s_need_masks) (defScope s_need_masks) dvs [] f fd) (T : Tx K mg ca) (C_is_mask : Callable P w K mg base ca 2 "is_mask" P_is_mask [] m_is_mask) : FnOk P w K mg base (L2N.CX P w) 3 f fd P_need_masks (spM K ca 1 m_need_masks) := by
  refine def_okD (N := N_need_masks) F sc_need_masks fun cdv A outer s H E hr => ?_
  have hu := hr.units
  have hu5 := hu_five hr
  have tk : L2N.Takes (cxOf (L2N.CX P w) P w K mg base N_need_masks "need_masks" (defScope s_need_masks) f cdv A outer s H E) (fun c d _ H => E c d H) := L2N.takes_of rfl rfl rfl rfl
  exact (b_cons (s_for (passes_of rfl) rfl (i_any (s_var (i := 0) rfl (.inl rfl))) (g_name (i := 1) sc_need_masks.nd rfl (.inl rfl)) (b_one (s_if (s_tnot (s_truth (s_call C_is_mask (hr.mono (by decide)) (by rfl) tk (a_cons (s_var (i := 1) rfl (.inl rfl)) a_nil) (len_dws (len_cons len_nil) rfl)))) (b_one (s_raise rfl tk T.e_BadMask (by rfl))) b_nil))) (b_one (s_for (passes_of rfl) rfl (i_any (s_var (i := 0) rfl (.inl rfl))) (g_name (i := 1) sc_need_masks.nd rfl (.inl rfl)) (b_one (s_if (PW.pt (w_or (s_testCmp (op_neD hu) says_ne (s_ix (s_var (i := 1) rfl (.inl rfl)) s_int) (s_ix (s_ix (s_var (i := 0) rfl (.inl rfl)) s_int) s_int) (nomark _)) (w_or1 (s_testCmp (op_neD hu) says_ne (s_bi call_len says_len (by rfl) T.n_len bt_len (c_cons (s_ix (s_var (i := 1) rfl (.inl rfl)) s_int) c_nil)) (s_bi call_len says_len (by rfl) T.n_len bt_len (c_cons (s_ix (s_ix (s_var (i := 0) rfl (.inl rfl)) s_int) s_int) c_nil)) (nomark _))))) (b_one (s_raise rfl tk T.e_BadSize (by rfl))) b_nil)))))
abbrev s_full_mask : Stmt := topS 20
abbrev N_full_mask : List Str := ["wide", "high"]
abbrev P_full_mask : List Str := ["wide", "high"]
theorem sc_full_mask : FnScope N_full_mask P_full_mask (defScope s_full_mask) := ⟨rfl, rfl, rfl, by decide +kernel, rfl, by decide +kernel, by decide +kernel⟩
noncomputable def b_full_mask : MS :=
  (sSeq (sDrop (mCall m_need_sides [] (mCons (mVar 0) (mCons (mVar 1) mNil)))) (sRet (mTup (mCons (mVar 0) (mCons (mBin fMul (mTup (mCons (mBin fSub (mBin fShl (mC (.int 1)) (mVar 0)) (mC (.int 1))) mNil)) (mVar 1)) mNil)))))
noncomputable def m_full_mask : List W → GH → R W := mDef 2 b_full_mask
theorem ok_full_mask {f : Addr} {fd : FuncData} {dvs : List V} (F : FunD K "full_mask" "full_mask" (defArgs s_full_mask) (defBody s_full_mask) (defScope s_full_mask) dvs [] f fd) (T : Tx K mg ca) (C_need_sides : Callable P w K mg base ca 2 "need_sides" P_need_sides [] m_need_sides) : FnOk P w K mg base (L2N.CX P w) 3 f fd P_full_mask (spM K ca 2 m_full_mask) := by
  refine def_okD (N := N_full_mask) F sc_full_mask fun cdv A outer s H E hr => ?_
  have hu := hr.units
  have hu5 := hu_five hr
  have tk : L2N.Takes (cxOf (L2N.CX P w) P w K mg base N_full_mask "full_mask" (defScope s_full_mask) f cdv A outer s H E) (fun c d _ H => E c d H) := L2N.takes_of rfl rfl rfl rfl
  exact (b_cons (s_expr (s_call C_need_sides (hr.mono (by decide)) (by rfl) tk (a_cons (s_var (i := 0) rfl (.inl rfl)) (a_cons (s_var (i := 1) rfl (.inl rfl)) a_nil)) (len_dws (len_cons (len_cons len_nil)) rfl))) (b_one (s_ret (s_tup (a_cons (s_var (i := 0) rfl (.inl rfl)) (a_cons (s_bin op_mulA says_mul (s_tup (a_cons (s_bin op_sub says_sub (s_bin op_shlW says_shl s_int (s_var (i := 0) rfl (.inl rfl))) s_int) a_nil)) (s_var (i := 1) rfl (.inl rfl))) a_nil))))))
abbrev s_both_masks : Stmt := topS 21
abbrev N_both_masks : List Str := ["one", "other", "left", "right"]
abbrev P_both_masks : List Str := ["one", "other"]
theorem sc_both_masks : FnScope N_both_masks P_both_masks (defScope s_both_masks) := ⟨rfl, rfl, rfl, by decide +kernel, rfl, by decide +kernel, by decide +kernel⟩
noncomputable def b_both_masks : MS :=
  (sSeq (sDrop (mCall m_need_masks [] (mCons (mLst (mCons (mVar 0) (mCons (mVar 1) mNil))) mNil))) (sRet (mTup (mCons (mBin fIx (mVar 0) (mC (.int 0))) (mCons (mBi fTuple (mConsT (mComp (miB iterZ (mConsT (mBin fIx (mVar 0) (mC (.int 1))) (mConsT (mBin fIx (mVar 1) (mC (.int 1))) mNilT))) (gT (gC (gN 2) (gC (gN 3) gE))) mYes (mBin fAnd (mVar 2) (mVar 3)) [2, 3]) mNilT)) mNil)))))
noncomputable def m_both_masks : List W → GH → R W := mDef 4 b_both_masks
theorem ok_both_masks {f : Addr} {fd : FuncData} {dvs : List V} (F : FunD K "both_masks" "both_masks" (defArgs s_both_masks) (defBody s_both_masks) (defScope s_both_masks) dvs [] f fd) (T : Tx K mg ca) (C_need_masks : Callable P w K mg base ca 3 "need_masks" P_need_masks [] m_need_masks) : FnOk P w K mg base (L2N.CX P w) 4 f fd P_both_masks (spM K ca 2 m_both_masks) := by
  refine def_okD (N := N_both_masks) F sc_both_masks fun cdv A outer s H E hr => ?_
  have hu := hr.units
  have hu5 := hu_five hr
  have tk : L2N.Takes (cxOf (L2N.CX P w) P w K mg base N_both_masks "both_masks" (defScope s_both_masks) f cdv A outer s H E) (fun c d _ H => E c d H) := L2N.takes_of rfl rfl rfl rfl
  exact (b_cons (s_expr (s_call C_need_masks (hr.mono (by decide)) (by rfl) tk (a_cons (s_lst (a_cons (s_var (i := 0) rfl (.inl rfl)) (a_cons (s_var (i := 1) rfl (.inl rfl)) a_nil))) a_nil) (len_dws (len_cons len_nil) rfl))) (b_one (s_ret (s_tup (a_cons (s_ix (s_var (i := 0) rfl (.inl rfl)) s_int) (a_cons (s_bty call_tuple_of says_tuple (by rfl) T.n_tuple bt_tuple (c_cons (s_lc (own := [("left", 2), ("right", 3)]) rfl sc_both_masks.nd (i_zip (by rfl) T.n_zip (c_cons (s_ix (s_var (i := 0) rfl (.inl rfl)) s_int) (c_cons (s_ix (s_var (i := 1) rfl (.inl rfl)) s_int) c_nil))) (blkOk_by (N := N_both_masks) (sc := defScope s_both_masks) (by decide +kernel)) (fun _ _ _ _ _ => (pg_tup rfl (pgs_cons (pg_name (i := 2) sc_both_masks.nd rfl (by first | exact .inl rfl | exact .inr rfl)) (pgs_cons (pg_name (i := 3) sc_both_masks.nd rfl (by first | exact .inl rfl | exact .inr rfl)) pgs_nil)))) (tgt_tup (tgt_cons tgt_name (tgt_cons tgt_name tgt_nil)) (gl_cons (gl_cons gl_nil))) (own_tup (own_cons (own_name (by decide)) mono_name (mono_cons mono_name mono_nil) (own_cons (own_name (by decide)) mono_name mono_nil own_nil))) (fun _ _ _ _ _ => ts_nil) (fun _ _ _ _ _ => (s_bin op_and says_band (s_var (i := 2) rfl (by first | exact .inl rfl | exact .inr (.inl rfl))) (s_var (i := 3) rfl (by first | exact .inl rfl | exact .inr (.inl rfl)))))) c_nil)) a_nil))))))
abbrev s_either_mask : Stmt := topS 22
abbrev N_either_mask : List Str := ["one", "other", "left", "right"]
abbrev P_either_mask : List Str := ["one", "other"]
theorem sc_either_mask : FnScope N_either_mask P_either_mask (defScope s_either_mask) := ⟨rfl, rfl, rfl, by decide +kernel, rfl, by decide +kernel, by decide +kernel⟩
noncomputable def b_either_mask : MS :=
  (sSeq (sDrop (mCall m_need_masks [] (mCons (mLst (mCons (mVar 0) (mCons (mVar 1) mNil))) mNil))) (sRet (mTup (mCons (mBin fIx (mVar 0) (mC (.int 0))) (mCons (mBi fTuple (mConsT (mComp (miB iterZ (mConsT (mBin fIx (mVar 0) (mC (.int 1))) (mConsT (mBin fIx (mVar 1) (mC (.int 1))) mNilT))) (gT (gC (gN 2) (gC (gN 3) gE))) mYes (mBin fOr (mVar 2) (mVar 3)) [2, 3]) mNilT)) mNil)))))
noncomputable def m_either_mask : List W → GH → R W := mDef 4 b_either_mask
theorem ok_either_mask {f : Addr} {fd : FuncData} {dvs : List V} (F : FunD K "either_mask" "either_mask" (defArgs s_either_mask) (defBody s_either_mask) (defScope s_either_mask) dvs [] f fd) (T : Tx K mg ca) (C_need_masks : Callable P w K mg base ca 3 "need_masks" P_need_masks [] m_need_masks) : FnOk P w K mg base (L2N.CX P w) 4 f fd P_either_mask (spM K ca 2 m_either_mask) := by
  refine def_okD (N := N_either_mask) F sc_either_mask fun cdv A outer s H E hr => ?_
  have hu := hr.units
  have hu5 := hu_five hr
  have tk : L2N.Takes (cxOf (L2N.CX P w) P w K mg base N_either_mask "either_mask" (defScope s_either_mask) f cdv A outer s H E) (fun c d _ H => E c d H) := L2N.takes_of rfl rfl rfl rfl
  exact (b_cons (s_expr (s_call C_need_masks (hr.mono (by decide)) (by rfl) tk (a_cons (s_lst (a_cons (s_var (i := 0) rfl (.inl rfl)) (a_cons (s_var (i := 1) rfl (.inl rfl)) a_nil))) a_nil) (len_dws (len_cons len_nil) rfl))) (b_one (s_ret (s_tup (a_cons (s_ix (s_var (i := 0) rfl (.inl rfl)) s_int) (a_cons (s_bty call_tuple_of says_tuple (by rfl) T.n_tuple bt_tuple (c_cons (s_lc (own := [("left", 2), ("right", 3)]) rfl sc_either_mask.nd (i_zip (by rfl) T.n_zip (c_cons (s_ix (s_var (i := 0) rfl (.inl rfl)) s_int) (c_cons (s_ix (s_var (i := 1) rfl (.inl rfl)) s_int) c_nil))) (blkOk_by (N := N_either_mask) (sc := defScope s_either_mask) (by decide +kernel)) (fun _ _ _ _ _ => (pg_tup rfl (pgs_cons (pg_name (i := 2) sc_either_mask.nd rfl (by first | exact .inl rfl | exact .inr rfl)) (pgs_cons (pg_name (i := 3) sc_either_mask.nd rfl (by first | exact .inl rfl | exact .inr rfl)) pgs_nil)))) (tgt_tup (tgt_cons tgt_name (tgt_cons tgt_name tgt_nil)) (gl_cons (gl_cons gl_nil))) (own_tup (own_cons (own_name (by decide)) mono_name (mono_cons mono_name mono_nil) (own_cons (own_name (by decide)) mono_name mono_nil own_nil))) (fun _ _ _ _ _ => ts_nil) (fun _ _ _ _ _ => (s_bin op_or says_bor (s_var (i := 2) rfl (by first | exact .inl rfl | exact .inr (.inl rfl))) (s_var (i := 3) rfl (by first | exact .inl rfl | exact .inr (.inl rfl)))))) c_nil)) a_nil))))))
abbrev s_one_mask : Stmt := topS 23
abbrev N_one_mask : List Str := ["one", "other", "left", "right"]
abbrev P_one_mask : List Str := ["one", "other"]
theorem sc_one_mask : FnScope N_one_mask P_one_mask (defScope s_one_mask) := ⟨rfl, rfl, rfl, by decide +kernel, rfl, by decide +kernel, by decide +kernel⟩
noncomputable def b_one_mask : MS :=
  (sSeq (sDrop (mCall m_need_masks [] (mCons (mLst (mCons (mVar 0) (mCons (mVar 1) mNil))) mNil))) (sRet (mTup (mCons (mBin fIx (mVar 0) (mC (.int 0))) (mCons (mBi fTuple (mConsT (mComp (miB iterZ (mConsT (mBin fIx (mVar 0) (mC (.int 1))) (mConsT (mBin fIx (mVar 1) (mC (.int 1))) mNilT))) (gT (gC (gN 2) (gC (gN 3) gE))) mYes (mBin fXor (mVar 2) (mVar 3)) [2, 3]) mNilT)) mNil)))))
noncomputable def m_one_mask : List W → GH → R W := mDef 4 b_one_mask
theorem ok_one_mask {f : Addr} {fd : FuncData} {dvs : List V} (F : FunD K "one_mask" "one_mask" (defArgs s_one_mask) (defBody s_one_mask) (defScope s_one_mask) dvs [] f fd) (T : Tx K mg ca) (C_need_masks : Callable P w K mg base ca 3 "need_masks" P_need_masks [] m_need_masks) : FnOk P w K mg base (L2N.CX P w) 4 f fd P_one_mask (spM K ca 2 m_one_mask) := by
  refine def_okD (N := N_one_mask) F sc_one_mask fun cdv A outer s H E hr => ?_
  have hu := hr.units
  have hu5 := hu_five hr
  have tk : L2N.Takes (cxOf (L2N.CX P w) P w K mg base N_one_mask "one_mask" (defScope s_one_mask) f cdv A outer s H E) (fun c d _ H => E c d H) := L2N.takes_of rfl rfl rfl rfl
  exact (b_cons (s_expr (s_call C_need_masks (hr.mono (by decide)) (by rfl) tk (a_cons (s_lst (a_cons (s_var (i := 0) rfl (.inl rfl)) (a_cons (s_var (i := 1) rfl (.inl rfl)) a_nil))) a_nil) (len_dws (len_cons len_nil) rfl))) (b_one (s_ret (s_tup (a_cons (s_ix (s_var (i := 0) rfl (.inl rfl)) s_int) (a_cons (s_bty call_tuple_of says_tuple (by rfl) T.n_tuple bt_tuple (c_cons (s_lc (own := [("left", 2), ("right", 3)]) rfl sc_one_mask.nd (i_zip (by rfl) T.n_zip (c_cons (s_ix (s_var (i := 0) rfl (.inl rfl)) s_int) (c_cons (s_ix (s_var (i := 1) rfl (.inl rfl)) s_int) c_nil))) (blkOk_by (N := N_one_mask) (sc := defScope s_one_mask) (by decide +kernel)) (fun _ _ _ _ _ => (pg_tup rfl (pgs_cons (pg_name (i := 2) sc_one_mask.nd rfl (by first | exact .inl rfl | exact .inr rfl)) (pgs_cons (pg_name (i := 3) sc_one_mask.nd rfl (by first | exact .inl rfl | exact .inr rfl)) pgs_nil)))) (tgt_tup (tgt_cons tgt_name (tgt_cons tgt_name tgt_nil)) (gl_cons (gl_cons gl_nil))) (own_tup (own_cons (own_name (by decide)) mono_name (mono_cons mono_name mono_nil) (own_cons (own_name (by decide)) mono_name mono_nil own_nil))) (fun _ _ _ _ _ => ts_nil) (fun _ _ _ _ _ => (s_bin op_xor says_bxor (s_var (i := 2) rfl (by first | exact .inl rfl | exact .inr (.inl rfl))) (s_var (i := 3) rfl (by first | exact .inl rfl | exact .inr (.inl rfl)))))) c_nil)) a_nil))))))
abbrev s_less_mask : Stmt := topS 24
abbrev N_less_mask : List Str := ["one", "other", "left", "right"]
abbrev P_less_mask : List Str := ["one", "other"]
theorem sc_less_mask : FnScope N_less_mask P_less_mask (defScope s_less_mask) := ⟨rfl, rfl, rfl, by decide +kernel, rfl, by decide +kernel, by decide +kernel⟩
noncomputable def b_less_mask : MS :=
  (sSeq (sDrop (mCall m_need_masks [] (mCons (mLst (mCons (mVar 0) (mCons (mVar 1) mNil))) mNil))) (sRet (mTup (mCons (mBin fIx (mVar 0) (mC (.int 0))) (mCons (mBi fTuple (mConsT (mComp (miB iterZ (mConsT (mBin fIx (mVar 0) (mC (.int 1))) (mConsT (mBin fIx (mVar 1) (mC (.int 1))) mNilT))) (gT (gC (gN 2) (gC (gN 3) gE))) mYes (mBin fXor (mVar 2) (mBin fAnd (mVar 2) (mVar 3))) [2, 3]) mNilT)) mNil)))))
noncomputable def m_less_mask : List W → GH → R W := mDef 4 b_less_mask
theorem ok_less_mask {f : Addr} {fd : FuncData} {dvs : List V} (F : FunD K "less_mask" "less_mask" (defArgs s_less_mask) (defBody s_less_mask) (defScope s_less_mask) dvs [] f fd) (T : Tx K mg ca) (C_need_masks : Callable P w K mg base ca 3 "need_masks" P_need_masks [] m_need_masks) : FnOk P w K mg base (L2N.CX P w) 4 f fd P_less_mask (spM K ca 2 m_less_mask) := by
  refine def_okD (N := N_less_mask) F sc_less_mask fun cdv A outer s H E hr => ?_
  have hu := hr.units
  have hu5 := hu_five hr
  have tk : L2N.Takes (cxOf (L2N.CX P w) P w K mg base N_less_mask "less_mask" (defScope s_less_mask) f cdv A outer s H E) (fun c d _ H => E c d H) := L2N.takes_of rfl rfl rfl rfl
  exact (b_cons (s_expr (s_call C_need_masks (hr.mono (by decide)) (by rfl) tk (a_cons (s_lst (a_cons (s_var (i := 0) rfl (.inl rfl)) (a_cons (s_var (i := 1) rfl (.inl rfl)) a_nil))) a_nil) (len_dws (len_cons len_nil) rfl))) (b_one (s_ret (s_tup (a_cons (s_ix (s_var (i := 0) rfl (.inl rfl)) s_int) (a_cons (s_bty call_tuple_of says_tuple (by rfl) T.n_tuple bt_tuple (c_cons (s_lc (own := [("left", 2), ("right", 3)]) rfl sc_less_mask.nd (i_zip (by rfl) T.n_zip (c_cons (s_ix (s_var (i := 0) rfl (.inl rfl)) s_int) (c_cons (s_ix (s_var (i := 1) rfl (.inl rfl)) s_int) c_nil))) (blkOk_by (N := N_less_mask) (sc := defScope s_less_mask) (by decide +kernel)) (fun _ _ _ _ _ => (pg_tup rfl (pgs_cons (pg_name (i := 2) sc_less_mask.nd rfl (by first | exact .inl rfl | exact .inr rfl)) (pgs_cons (pg_name (i := 3) sc_less_mask.nd rfl (by first | exact .inl rfl | exact .inr rfl)) pgs_nil)))) (tgt_tup (tgt_cons tgt_name (tgt_cons tgt_name tgt_nil)) (gl_cons (gl_cons gl_nil))) (own_tup (own_cons (own_name (by decide)) mono_name (mono_cons mono_name mono_nil) (own_cons (own_name (by decide)) mono_name mono_nil own_nil))) (fun _ _ _ _ _ => ts_nil) (fun _ _ _ _ _ => (s_bin op_xor says_bxor (s_var (i := 2) rfl (by first | exact .inl rfl | exact .inr (.inl rfl))) (s_bin op_and says_band (s_var (i := 2) rfl (by first | exact .inl rfl | exact .inr (.inl rfl))) (s_var (i := 3) rfl (by first | exact .inl rfl | exact .inr (.inl rfl))))))) c_nil)) a_nil))))))
abbrev s_other_mask : Stmt := topS 25
abbrev N_other_mask : List Str := ["mask"]
abbrev P_other_mask : List Str := ["mask"]
theorem sc_other_mask : FnScope N_other_mask P_other_mask (defScope s_other_mask) := ⟨rfl, rfl, rfl, by decide +kernel, rfl, by decide +kernel, by decide +kernel⟩
noncomputable def b_other_mask : MS :=
  (sSeq (sDrop (mCall m_need_masks [] (mCons (mLst (mCons (mVar 0) mNil)) mNil))) (sRet (mCall m_one_mask [] (mCons (mVar 0) (mCons (mCall m_full_mask [] (mCons (mBin fIx (mVar 0) (mC (.int 0))) (mCons (mBi fLen (mConsT (mBin fIx (mVar 0) (mC (.int 1))) mNilT)) mNil))) mNil)))))
noncomputable def m_other_mask : List W → GH → R W := mDef 1 b_other_mask
theorem ok_other_mask {f : Addr} {fd : FuncData} {dvs : List V} (F : FunD K "other_mask" "other_mask" (defArgs s_other_mask) (defBody s_other_mask) (defScope s_other_mask) dvs [] f fd) (T : Tx K mg ca) (C_full_mask : Callable P w K mg base ca 3 "full_mask" P_full_mask [] m_full_mask) (C_need_masks : Callable P w K mg base ca 3 "need_masks" P_need_masks [] m_need_masks) (C_one_mask : Callable P w K mg base ca 4 "one_mask" P_one_mask [] m_one_mask) : FnOk P w K mg base (L2N.CX P w) 5 f fd P_other_mask (spM K ca 1 m_other_mask) := by
  refine def_okD (N := N_other_mask) F sc_other_mask fun cdv A outer s H E hr => ?_
  have hu := hr.units
  have hu5 := hu_five hr
  have tk : L2N.Takes (cxOf (L2N.CX P w) P w K mg base N_other_mask "other_mask" (defScope s_other_mask) f cdv A outer s H E) (fun c d _ H => E c d H) := L2N.takes_of rfl rfl rfl rfl
  exact (b_cons (s_expr (s_call C_need_masks (hr.mono (by decide)) (by rfl) tk (a_cons (s_lst (a_cons (s_var (i := 0) rfl (.inl rfl)) a_nil)) a_nil) (len_dws (len_cons len_nil) rfl))) (b_one (s_ret (s_call C_one_mask (hr.mono (by decide)) (by rfl) tk (a_cons (s_var (i := 0) rfl (.inl rfl)) (a_cons (s_call C_full_mask (hr.mono (by decide)) (by rfl) tk (a_cons (s_ix (s_var (i := 0) rfl (.inl rfl)) s_int) (a_cons (s_bi call_len says_len (by rfl) T.n_len bt_len (c_cons (s_ix (s_var (i := 0) rfl (.inl rfl)) s_int) c_nil)) a_nil)) (len_dws (len_cons (len_cons len_nil)) rfl)) a_nil)) (len_dws (len_cons (len_cons len_nil)) rfl)))))
abbrev s_many_in_mask : Stmt := topS 26
abbrev N_many_in_mask : List Str := ["mask", "row"]
abbrev P_many_in_mask : List Str := ["mask"]
theorem sc_many_in_mask : FnScope N_many_in_mask P_many_in_mask (defScope s_many_in_mask) := ⟨rfl, rfl, rfl, by decide +kernel, rfl, by decide +kernel, by decide +kernel⟩
noncomputable def b_many_in_mask : MS :=
  (sSeq (sDrop (mCall m_need_masks [] (mCons (mLst (mCons (mVar 0) mNil)) mNil))) (sRet (mBi fSum (mConsT (mComp (miA (mBin fIx (mVar 0) (mC (.int 1)))) (gN 1) mYes (mCall m_many_bits [] (mCons (mVar 1) mNil)) [1]) mNilT))))
noncomputable def m_many_in_mask : List W → GH → R W := mDef 2 b_many_in_mask
theorem ok_many_in_mask {f : Addr} {fd : FuncData} {dvs : List V} (F : FunD K "many_in_mask" "many_in_mask" (defArgs s_many_in_mask) (defBody s_many_in_mask) (defScope s_many_in_mask) dvs [] f fd) (T : Tx K mg ca) (C_many_bits : Callable P w K mg base ca 1 "many_bits" P_many_bits [] m_many_bits) (C_need_masks : Callable P w K mg base ca 3 "need_masks" P_need_masks [] m_need_masks) : FnOk P w K mg base (L2N.CX P w) 4 f fd P_many_in_mask (spM K ca 1 m_many_in_mask) := by
  refine def_okD (N := N_many_in_mask) F sc_many_in_mask fun cdv A outer s H E hr => ?_
  have hu := hr.units
  have hu5 := hu_five hr
  have tk : L2N.Takes (cxOf (L2N.CX P w) P w K mg base N_many_in_mask "many_in_mask" (defScope s_many_in_mask) f cdv A outer s H E) (fun c d _ H => E c d H) := L2N.takes_of rfl rfl rfl rfl
  exact (b_cons (s_expr (s_call C_need_masks (hr.mono (by decide)) (by rfl) tk (a_cons (s_lst (a_cons (s_var (i := 0) rfl (.inl rfl)) a_nil)) a_nil) (len_dws (len_cons len_nil) rfl))) (b_one (s_ret (s_bi (cr_sum rfl) says_sum (by rfl) T.n_sum bt_sum (c_cons (s_lc (own := [("row", 1)]) rfl sc_many_in_mask.nd (i_any (s_ix (s_var (i := 0) rfl (.inl rfl)) s_int)) (blkOk_by (N := N_many_in_mask) (sc := defScope s_many_in_mask) (by decide +kernel)) (fun _ _ _ _ _ => (pg_name (i := 1) sc_many_in_mask.nd rfl (by first | exact .inl rfl | exact .inr rfl))) tgt_name (own_name (by decide)) (fun _ _ _ _ _ => ts_nil) (fun _ _ _ _ _ => (s_call C_many_bits (hr.mono (by decide)) (by rfl) takesN (a_cons (s_var (i := 1) rfl (by first | exact .inl rfl | exact .inr (.inl rfl))) a_nil) (len_dws (len_cons len_nil) rfl)))) c_nil)))))
abbrev s_cells_in_mask : Stmt := topS 27
abbrev N_cells_in_mask : List Str := ["mask", "found", "row", "y", "x"]
abbrev P_cells_in_mask : List Str := ["mask"]
theorem sc_cells_in_mask : FnScope N_cells_in_mask P_cells_in_mask (defScope s_cells_in_mask) := ⟨rfl, rfl, rfl, by decide +kernel, rfl, by decide +kernel, by decide +kernel⟩
noncomputable def b_cells_in_mask : MS :=
  (sSeq (sDrop (mCall m_need_masks [] (mCons (mLst (mCons (mVar 0) mNil)) mNil))) (sSeq (sSet 1 (mLst mNil)) (sSeq (sFor (miB iterE (mConsT (mBin fIx (mVar 0) (mC (.int 1))) mNilT)) (gT (gC (gN 3) (gC (gN 2) gE))) (sDrop (mMt isLst fExt (mVar 1) (mConsT (mComp (miA (mCall m_places_of_bits [] (mCons (mVar 2) mNil))) (gN 4) mYes (mTup (mCons (mVar 4) (mCons (mVar 3) mNil))) [4]) mNilT)))) (sRet (mVar 1)))))
noncomputable def m_cells_in_mask : List W → GH → R W := mDef 5 b_cells_in_mask
theorem ok_cells_in_mask {f : Addr} {fd : FuncData} {dvs : List V} (F : FunD K "cells_in_mask" "cells_in_mask" (defArgs s_cells_in_mask) (defBody s_cells_in_mask) (defScope s_cells_in_mask) dvs [] f fd) (T : Tx K mg ca) (C_need_masks : Callable P w K mg base ca 3 "need_masks" P_need_masks [] m_need_masks) (C_places_of_bits : Callable P w K mg base ca 2 "places_of_bits" P_places_of_bits [] m_places_of_bits) : FnOk P w K mg base (L2N.CX P w) 4 f fd P_cells_in_mask (spM K ca 1 m_cells_in_mask) := by
  refine def_okD (N := N_cells_in_mask) F sc_cells_in_mask fun cdv A outer s H E hr => ?_
  have hu := hr.units
  have hu5 := hu_five hr
  have tk : L2N.Takes (cxOf (L2N.CX P w) P w K mg base N_cells_in_mask "cells_in_mask" (defScope s_cells_in_mask) f cdv A outer s H E) (fun c d _ H => E c d H) := L2N.takes_of rfl rfl rfl rfl
  exact (b_cons (s_expr (s_call C_need_masks (hr.mono (by decide)) (by rfl) tk (a_cons (s_lst (a_cons (s_var (i := 0) rfl (.inl rfl)) a_nil)) a_nil) (len_dws (len_cons len_nil) rfl))) (b_cons (s_set (i := 1) sc_cells_in_mask.nd rfl (.inl rfl) (s_lst a_nil)) (b_cons (s_for (passes_of rfl) rfl (i_enum (by rfl) T.n_enumerate (c_cons (s_ix (s_var (i := 0) rfl (.inl rfl)) s_int) c_nil)) (g_tup rfl (g_cons (g_name (i := 3) sc_cells_in_mask.nd rfl (.inr rfl)) (g_cons (g_name (i := 2) sc_cells_in_mask.nd rfl (.inl rfl)) g_nil)) (gl_cons (gl_cons gl_nil))) (b_one (s_expr (s_mt PySem.F.plainAttrs_list PySem.F.slot_list_extend PySem.F.type_list_extend mt_extend says_ext ty_list (s_var (i := 1) rfl (.inl rfl)) (c_cons (s_lc (own := [("x", 4)]) rfl sc_cells_in_mask.nd (i_any (s_call C_places_of_bits (hr.mono (by decide)) (by rfl) tk (a_cons (s_var (i := 2) rfl (.inl rfl)) a_nil) (len_dws (len_cons len_nil) rfl))) (blkOk_by (N := N_cells_in_mask) (sc := defScope s_cells_in_mask) (by decide +kernel)) (fun _ _ _ _ _ => (pg_name (i := 4) sc_cells_in_mask.nd rfl (by first | exact .inl rfl | exact .inr rfl))) tgt_name (own_name (by decide)) (fun _ _ _ _ _ => ts_nil) (fun _ _ _ _ _ => (s_tup (a_cons (s_var (i := 4) rfl (by first | exact .inl rfl | exact .inr (.inl rfl))) (a_cons (s_var (i := 3) rfl (by first | exact .inr (.inl rfl) | exact .inr (.inr rfl) | exact .inl rfl)) a_nil))))) c_nil))))) (b_one (s_ret (s_var (i := 1) rfl (.inl rfl)))))))
abbrev s_law_cell : Stmt := topS 29
abbrev N_law_cell : List Str := ["_law_script", "_law_k"]
abbrev P_law_cell : List Str := ["_law_script", "_law_k"]
theorem sc_law_cell : FnScope N_law_cell P_law_cell (defScope s_law_cell) := ⟨rfl, rfl, rfl, by decide +kernel, rfl, by decide +kernel, by decide +kernel⟩
noncomputable def b_law_cell : MS :=
  (sSeq (sIf (mB (mBin fLt (mVar 1) (mBi fLen (mConsT (mVar 0) mNilT)))) (sRet (mBin fIx (mVar 0) (mVar 1))) sNext) (sRet (mC (.int 0))))
noncomputable def m_law_cell : List W → GH → R W := mDef 2 b_law_cell
theorem ok_law_cell {f : Addr} {fd : FuncData} {dvs : List V} (F : FunD K "_law_cell" "_law_cell" (defArgs s_law_cell) (defBody s_law_cell) (defScope s_law_cell) dvs [] f fd) (T : Tx K mg ca) : FnOk P w K mg base (L2N.CX P w) 1 f fd P_law_cell (spM K ca 2 m_law_cell) := by
  refine def_okD (N := N_law_cell) F sc_law_cell fun cdv A outer s H E hr => ?_
  have hu := hr.units
  have hu5 := hu_five hr
  have tk : L2N.Takes (cxOf (L2N.CX P w) P w K mg base N_law_cell "_law_cell" (defScope s_law_cell) f cdv A outer s H E) (fun c d _ H => E c d H) := L2N.takes_of rfl rfl rfl rfl
  exact (b_cons (s_if (s_testCmp op_lt says_C (s_var (i := 1) rfl (.inl rfl)) (s_bi call_len says_len (by rfl) T.n_len bt_len (c_cons (s_var (i := 0) rfl (.inl rfl)) c_nil)) (nomark _)) (b_one (s_ret (s_ix (s_var (i := 0) rfl (.inl rfl)) (s_var (i := 1) rfl (.inl rfl))))) b_nil) (b_one (s_ret s_int)))
abbrev s_law_mixed : Stmt := topS 30
abbrev N_law_mixed : List Str := ["_law_script", "_law_k", "_law_number"]
abbrev P_law_mixed : List Str := ["_law_script", "_law_k"]
theorem sc_law_mixed : FnScope N_law_mixed P_law_mixed (defScope s_law_mixed) := ⟨rfl, rfl, rfl, by decide +kernel, rfl, by decide +kernel, by decide +kernel⟩
noncomputable def b_law_mixed : MS :=
  (sSeq (sSet 2 (mBin fAdd (mBin fAdd (mCall m_law_cell [] (mCons (mVar 0) (mCons (mVar 1) mNil))) (mBin fMul (mC (.int 7919)) (mVar 1))) (mC (.int 13)))) (sRet (mBin fFdiv (mBin fMod (mBin fMul (mBin fMod (mBin fMul (mVar 2) (mVar 2)) (mC (.int 1000000007))) (mVar 2)) (mC (.int 998244353))) (mC (.int 11)))))
noncomputable def m_law_mixed : List W → GH → R W := mDef 3 b_law_mixed
theorem ok_law_mixed {f : Addr} {fd : FuncData} {dvs : List V} (F : FunD K "_law_mixed" "_law_mixed" (defArgs s_law_mixed) (defBody s_law_mixed) (defScope s_law_mixed) dvs [] f fd) (T : Tx K mg ca) (C_law_cell : Callable P w K mg base ca 1 "_law_cell" P_law_cell [] m_law_cell) : FnOk P w K mg base (L2N.CX P w) 2 f fd P_law_mixed (spM K ca 2 m_law_mixed) := by
  refine def_okD (N := N_law_mixed) F sc_law_mixed fun cdv A outer s H E hr => ?_
  have hu := hr.units
  have hu5 := hu_five hr
  have tk : L2N.Takes (cxOf (L2N.CX P w) P w K mg base N_law_mixed "_law_mixed" (defScope s_law_mixed) f cdv A outer s H E) (fun c d _ H => E c d H) := L2N.takes_of rfl rfl rfl rfl
  exact (b_cons (s_set (i := 2) sc_law_mixed.nd rfl (.inl rfl) (s_bin op_addA says_add (s_bin op_addA says_add (s_call C_law_cell (hr.mono (by decide)) (by rfl) tk (a_cons (s_var (i := 0) rfl (.inl rfl)) (a_cons (s_var (i := 1) rfl (.inl rfl)) a_nil)) (len_dws (len_cons (len_cons len_nil)) rfl)) (s_bin op_mulA says_mul s_int (s_var (i := 1) rfl (.inl rfl)))) s_int)) (b_one (s_ret (s_bin op_fdivW says_fdiv (s_bin op_mod says_mod (s_bin op_mulA says_mul (s_bin op_mod says_mod (s_bin op_mulA says_mul (s_var (i := 2) rfl (.inl rfl)) (s_var (i := 2) rfl (.inl rfl))) s_int) (s_var (i := 2) rfl (.inl rfl))) s_int) s_int))))
abbrev s_law_whole : Stmt := topS 31
abbrev N_law_whole : List Str := ["_law_found"]
abbrev P_law_whole : List Str := ["_law_found"]
theorem sc_law_whole : FnScope N_law_whole P_law_whole (defScope s_law_whole) := ⟨rfl, rfl, rfl, by decide +kernel, rfl, by decide +kernel, by decide +kernel⟩
noncomputable def b_law_whole : MS :=
  (sRet (mAndV (mBi fIsi (mConsT (mVar 0) (mConsT (mC (.ty "int")) mNilT))) (mNotV (mBi fIsi (mConsT (mVar 0) (mConsT (mC (.ty "bool")) mNilT))))))
noncomputable def m_law_whole : List W → GH → R W := mDef 1 b_law_whole
theorem ok_law_whole {f : Addr} {fd : FuncData} {dvs : List V} (F : FunD K "_law_whole" "_law_whole" (defArgs s_law_whole) (defBody s_law_whole) (defScope s_law_whole) dvs [] f fd) (T : Tx K mg ca) : FnOk P w K mg base (L2N.CX P w) 1 f fd P_law_whole (spM K ca 1 m_law_whole) := by
  refine def_okD (N := N_law_whole) F sc_law_whole fun cdv A outer s H E hr => ?_
  have hu := hr.units
  have hu5 := hu_five hr
  have tk : L2N.Takes (cxOf (L2N.CX P w) P w K mg base N_law_whole "_law_whole" (defScope s_law_whole) f cdv A outer s H E) (fun c d _ H => E c d H) := L2N.takes_of rfl rfl rfl rfl
  exact (b_one (s_ret (v_and (s_bi call_isi says_isi (by rfl) T.n_isinstance bt_isinstance (c_cons (s_var (i := 0) rfl (.inl rfl)) (c_cons (s_ty (by rfl) T.n_int bt_int) c_nil))) (v_one (v_not (s_bi call_isi says_isi (by rfl) T.n_isinstance bt_isinstance (c_cons (s_var (i := 0) rfl (.inl rfl)) (c_cons (s_ty (by rfl) T.n_bool bt_bool) c_nil))))))))
abbrev s_law_power : Stmt := topS 32
abbrev N_law_power : List Str := ["_law_place", "_law_found", "_law_turn"]
abbrev P_law_power : List Str := ["_law_place"]
theorem sc_law_power : FnScope N_law_power P_law_power (defScope s_law_power) := ⟨rfl, rfl, rfl, by decide +kernel, rfl, by decide +kernel, by decide +kernel⟩
noncomputable def b_law_power : MS :=
  (sSeq (sSet 1 (mC (.int 1))) (sSeq (sFor (miR (mCons (mVar 0) mNil)) (gN 2) (sSet 1 (mBin fMul (mC (.int 2)) (mVar 1)))) (sRet (mVar 1))))
noncomputable def m_law_power : List W → GH → R W := mDef 3 b_law_power
theorem ok_law_power {f : Addr} {fd : FuncData} {dvs : List V} (F : FunD K "_law_power" "_law_power" (defArgs s_law_power) (defBody s_law_power) (defScope s_law_power) dvs [] f fd) (T : Tx K mg ca) : FnOk P w K mg base (L2N.CX P w) 1 f fd P_law_power (spM K ca 1 m_law_power) := by
  refine def_okD (N := N_law_power) F sc_law_power fun cdv A outer s H E hr => ?_
  have hu := hr.units
  have hu5 := hu_five hr
  have tk : L2N.Takes (cxOf (L2N.CX P w) P w K mg base N_law_power "_law_power" (defScope s_law_power) f cdv A outer s H E) (fun c d _ H => E c d H) := L2N.takes_of rfl rfl rfl rfl
  exact (b_cons (s_set (i := 1) sc_law_power.nd rfl (.inl rfl) s_int) (b_cons (s_for (passes_of rfl) rfl (i_range1 (by rfl) T.n_range (a_cons (s_var (i := 0) rfl (.inl rfl)) a_nil)) (g_name (i := 2) sc_law_power.nd rfl (.inl rfl)) (b_one (s_set (i := 1) sc_law_power.nd rfl (.inl rfl) (s_bin op_mulA says_mul s_int (s_var (i := 1) rfl (.inl rfl)))))) (b_one (s_ret (s_var (i := 1) rfl (.inl rfl))))))
abbrev s_law_mask : Stmt := topS 33
abbrev N_law_mask : List Str := ["_law_script", "_law_at", "_law_wide", "_law_high", "_law_full", "_law_number", "_law_one", "_law_rows", "_law_y"]
abbrev P_law_mask : List Str := ["_law_script", "_law_at", "_law_wide", "_law_high"]
theorem sc_law_mask : FnScope N_law_mask P_law_mask (defScope s_law_mask) := ⟨rfl, rfl, rfl, by decide +kernel, rfl, by decide +kernel, by decide +kernel⟩
noncomputable def b_law_mask : MS :=
  (sSeq (sSet 7 (mLst mNil)) (sSeq (sSet 4 (mBin fSub (mCall m_law_power [] (mCons (mVar 2) mNil)) (mC (.int 1)))) (sSeq (sFor (miR (mCons (mVar 3) mNil)) (gN 8) (sSeq (sSet 5 (mBin fAdd (mCall m_law_mixed [] (mCons (mVar 0) (mCons (mBin fAdd (mVar 1) (mBin fMod (mVar 8) (mC (.int 10)))) mNil))) (mBin fMul (mBin fMul (mC (.int 977)) (mVar 8)) (mVar 8)))) (sSeq (sSet 6 (mBin fMod (mBin fMod (mBin fMul (mVar 5) (mC (.int 40692))) (mC (.int 1000000007))) (mBin fAdd (mVar 4) (mC (.int 1))))) (sDrop (mMtF isLst fApp (mVar 7) (mCons (mBin fIx (mLst (mCons (mVar 6) (mCons (mC (.int 0)) (mCons (mVar 4) (mCons (mBin fMod (mBin fMul (mVar 5) (mC (.int 16807))) (mBin fAdd (mVar 4) (mC (.int 1)))) (mCons (mVar 6) (mCons (mVar 6) mNil))))))) (mBin fMod (mBin fFdiv (mVar 5) (mC (.int 3))) (mC (.int 6)))) mNil)))))) (sRet (mTup (mCons (mVar 2) (mCons (mBi fTuple (mConsT (mVar 7) mNilT)) mNil)))))))
noncomputable def m_law_mask : List W → GH → R W := mDef 9 b_law_mask
theorem ok_law_mask {f : Addr} {fd : FuncData} {dvs : List V} (F : FunD K "_law_mask" "_law_mask" (defArgs s_law_mask) (defBody s_law_mask) (defScope s_law_mask) dvs [] f fd) (T : Tx K mg ca) (C_law_mixed : Callable P w K mg base ca 2 "_law_mixed" P_law_mixed [] m_law_mixed) (C_law_power : Callable P w K mg base ca 1 "_law_power" P_law_power [] m_law_power) : FnOk P w K mg base (L2N.CX P w) 3 f fd P_law_mask (spM K ca 4 m_law_mask) := by
  refine def_okD (N := N_law_mask) F sc_law_mask fun cdv A outer s H E hr => ?_
  have hu := hr.units
  have hu5 := hu_five hr
  have tk : L2N.Takes (cxOf (L2N.CX P w) P w K mg base N_law_mask "_law_mask" (defScope s_law_mask) f cdv A outer s H E) (fun c d _ H => E c d H) := L2N.takes_of rfl rfl rfl rfl
  exact (b_cons (s_set (i := 7) sc_law_mask.nd rfl (.inl rfl) (s_lst a_nil)) (b_cons (s_set (i := 4) sc_law_mask.nd rfl (.inl rfl) (s_bin op_sub says_sub (s_call C_law_power (hr.mono (by decide)) (by rfl) tk (a_cons (s_var (i := 2) rfl (.inl rfl)) a_nil) (len_dws (len_cons len_nil) rfl)) s_int)) (b_cons (s_for (passes_of rfl) rfl (i_range1 (by rfl) T.n_range (a_cons (s_var (i := 3) rfl (.inl rfl)) a_nil)) (g_name (i := 8) sc_law_mask.nd rfl (.inl rfl)) (b_cons (s_set (i := 5) sc_law_mask.nd rfl (.inl rfl) (s_bin op_addA says_add (s_call C_law_mixed (hr.mono (by decide)) (by rfl) tk (a_cons (s_var (i := 0) rfl (.inl rfl)) (a_cons (s_bin op_addA says_add (s_var (i := 1) rfl (.inl rfl)) (s_bin op_mod says_mod (s_var (i := 8) rfl (.inl rfl)) s_int)) a_nil)) (len_dws (len_cons (len_cons len_nil)) rfl)) (s_bin op_mulA says_mul (s_bin op_mulA says_mul s_int (s_var (i := 8) rfl (.inl rfl))) (s_var (i := 8) rfl (.inl rfl))))) (b_cons (s_set (i := 6) sc_law_mask.nd rfl (.inl rfl) (s_bin op_mod says_mod (s_bin op_mod says_mod (s_bin op_mulA says_mul (s_var (i := 5) rfl (.inl rfl)) s_int) s_int) (s_bin op_addA says_add (s_var (i := 4) rfl (.inl rfl)) s_int))) (b_one (s_expr (s_mtF PySem.F.plainAttrs_list PySem.F.slot_list_append PySem.F.type_list_append mt_append says_app ty_list (s_var (i := 7) rfl (.inl rfl)) (a_cons (s_ix (s_lst (a_cons (s_var (i := 6) rfl (.inl rfl)) (a_cons s_int (a_cons (s_var (i := 4) rfl (.inl rfl)) (a_cons (s_bin op_mod says_mod (s_bin op_mulA says_mul (s_var (i := 5) rfl (.inl rfl)) s_int) (s_bin op_addA says_add (s_var (i := 4) rfl (.inl rfl)) s_int)) (a_cons (s_var (i := 6) rfl (.inl rfl)) (a_cons (s_var (i := 6) rfl (.inl rfl)) a_nil))))))) (s_bin op_mod says_mod (s_bin op_fdivW says_fdiv (s_var (i := 5) rfl (.inl rfl)) s_int) s_int)) a_nil))))))) (b_one (s_ret (s_tup (a_cons (s_var (i := 2) rfl (.inl rfl)) (a_cons (s_bty call_tuple_of says_tuple (by rfl) T.n_tuple bt_tuple (c_cons (s_var (i := 7) rfl (.inl rfl)) c_nil)) a_nil))))))))
abbrev s_law_places : Stmt := topS 34
abbrev N_law_places : List Str := ["_law_mask_here", "_law_found", "_law_rest", "_law_x", "_law_y"]
abbrev P_law_places : List Str := ["_law_mask_here"]
theorem sc_law_places : FnScope N_law_places P_law_places (defScope s_law_places) := ⟨rfl, rfl, rfl, by decide +kernel, rfl, by decide +kernel, by decide +kernel⟩
noncomputable def b_law_places : MS :=
  (sSeq (sSet 1 (mLst mNil)) (sSeq (sFor (miR (mCons (mBi fLen (mConsT (mBin fIx (mVar 0) (mC (.int 1))) mNilT)) mNil)) (gN 4) (sSeq (sSet 2 (mBin fIx (mBin fIx (mVar 0) (mC (.int 1))) (mVar 4))) (sFor (miR (mCons (mBin fIx (mVar 0) (mC (.int 0))) mNil)) (gN 3) (sSeq (sIf (mB (mBin fEq (mBin fMod (mVar 2) (mC (.int 2))) (mC (.int 1)))) (sDrop (mMtF isLst fApp (mVar 1) (mCons (mTup (mCons (mVar 3) (mCons (mVar 4) mNil))) mNil))) sNext) (sSet 2 (mBin fFdiv (mVar 2) (mC (.int 2)))))))) (sRet (mVar 1))))
noncomputable def m_law_places : List W → GH → R W := mDef 5 b_law_places
theorem ok_law_places {f : Addr} {fd : FuncData} {dvs : List V} (F : FunD K "_law_places" "_law_places" (defArgs s_law_places) (defBody s_law_places) (defScope s_law_places) dvs [] f fd) (T : Tx K mg ca) : FnOk P w K mg base (L2N.CX P w) 1 f fd P_law_places (spM K ca 1 m_law_places) := by
  refine def_okD (N := N_law_places) F sc_law_places fun cdv A outer s H E hr => ?_
  have hu := hr.units
  have hu5 := hu_five hr
  have tk : L2N.Takes (cxOf (L2N.CX P w) P w K mg base N_law_places "_law_places" (defScope s_law_places) f cdv A outer s H E) (fun c d _ H => E c d H) := L2N.takes_of rfl rfl rfl rfl
  exact (b_cons (s_set (i := 1) sc_law_places.nd rfl (.inl rfl) (s_lst a_nil)) (b_cons (s_for (passes_of rfl) rfl (i_range1 (by rfl) T.n_range (a_cons (s_bi call_len says_len (by rfl) T.n_len bt_len (c_cons (s_ix (s_var (i := 0) rfl (.inl rfl)) s_int) c_nil)) a_nil)) (g_name (i := 4) sc_law_places.nd rfl (.inl rfl)) (b_cons (s_set (i := 2) sc_law_places.nd rfl (.inl rfl) (s_ix (s_ix (s_var (i := 0) rfl (.inl rfl)) s_int) (s_var (i := 4) rfl (.inl rfl)))) (b_one (s_for (passes_of rfl) rfl (i_range1 (by rfl) T.n_range (a_cons (s_ix (s_var (i := 0) rfl (.inl rfl)) s_int) a_nil)) (g_name (i := 3) sc_law_places.nd rfl (.inl rfl)) (b_cons (s_if (s_testCmp (op_eqD hu) says_eq (s_bin op_mod says_mod (s_var (i := 2) rfl (.inl rfl)) s_int) s_int (nomark _)) (b_one (s_expr (s_mtF PySem.F.plainAttrs_list PySem.F.slot_list_append PySem.F.type_list_append mt_append says_app ty_list (s_var (i := 1) rfl (.inl rfl)) (a_cons (s_tup (a_cons (s_var (i := 3) rfl (.inl rfl)) (a_cons (s_var (i := 4) rfl (.inl rfl)) a_nil))) a_nil)))) b_nil) (b_one (s_set (i := 2) sc_law_places.nd rfl (.inl rfl) (s_bin op_fdivW says_fdiv (s_var (i := 2) rfl (.inl rfl)) s_int)))))))) (b_one (s_ret (s_var (i := 1) rfl (.inl rfl))))))
abbrev s_law_mask_by : Stmt := topS 35
abbrev N_law_mask_by : List Str := ["_law_places_here", "_law_wide", "_law_high", "_law_rows", "_law_x", "_law_y"]
abbrev P_law_mask_by : List Str := ["_law_places_here", "_law_wide", "_law_high"]
theorem sc_law_mask_by : FnScope N_law_mask_by P_law_mask_by (defScope s_law_mask_by) := ⟨rfl, rfl, rfl, by decide +kernel, rfl, by decide +kernel, by decide +kernel⟩
noncomputable def b_law_mask_by : MS :=
  (sSeq (sSet 3 (mBin fMul (mLst (mCons (mC (.int 0)) mNil)) (mVar 2))) (sSeq (sFor (miA (mVar 0)) (gT (gC (gN 4) (gC (gN 5) gE))) (sPut (mVar 3) (mVar 5) (mBin fAdd (mBin fIx (mVar 3) (mVar 5)) (mCall m_law_power [] (mCons (mVar 4) mNil))))) (sRet (mTup (mCons (mVar 1) (mCons (mBi fTuple (mConsT (mVar 3) mNilT)) mNil))))))
noncomputable def m_law_mask_by : List W → GH → R W := mDef 6 b_law_mask_by
theorem ok_law_mask_by {f : Addr} {fd : FuncData} {dvs : List V} (F : FunD K "_law_mask_by" "_law_mask_by" (defArgs s_law_mask_by) (defBody s_law_mask_by) (defScope s_law_mask_by) dvs [] f fd) (T : Tx K mg ca) (C_law_power : Callable P w K mg base ca 1 "_law_power" P_law_power [] m_law_power) : FnOk P w K mg base (L2N.CX P w) 2 f fd P_law_mask_by (spM K ca 3 m_law_mask_by) := by
  refine def_okD (N := N_law_mask_by) F sc_law_mask_by fun cdv A outer s H E hr => ?_
  have hu := hr.units
  have hu5 := hu_five hr
  have tk : L2N.Takes (cxOf (L2N.CX P w) P w K mg base N_law_mask_by "_law_mask_by" (defScope s_law_mask_by) f cdv A outer s H E) (fun c d _ H => E c d H) := L2N.takes_of rfl rfl rfl rfl
  exact (b_cons (s_set (i := 3) sc_law_mask_by.nd rfl (.inl rfl) (s_bin op_mulA says_mul (s_lst (a_cons s_int a_nil)) (s_var (i := 2) rfl (.inl rfl)))) (b_cons (s_for (passes_of rfl) rfl (i_any (s_var (i := 0) rfl (.inl rfl))) (g_tup rfl (g_cons (g_name (i := 4) sc_law_mask_by.nd rfl (.inl rfl)) (g_cons (g_name (i := 5) sc_law_mask_by.nd rfl (.inl rfl)) g_nil)) (gl_cons (gl_cons gl_nil))) (b_one (s_put (s_var (i := 3) rfl (.inl rfl)) (s_var (i := 5) rfl (.inl rfl)) (s_bin op_addA says_add (s_ix (s_var (i := 3) rfl (.inl rfl)) (s_var (i := 5) rfl (.inl rfl))) (s_call C_law_power (hr.mono (by decide)) (by rfl) tk (a_cons (s_var (i := 4) rfl (.inl rfl)) a_nil) (len_dws (len_cons len_nil) rfl)))))) (b_one (s_ret (s_tup (a_cons (s_var (i := 1) rfl (.inl rfl)) (a_cons (s_bty call_tuple_of says_tuple (by rfl) T.n_tuple bt_tuple (c_cons (s_var (i := 3) rfl (.inl rfl)) c_nil)) a_nil)))))))
abbrev s_law_same_mask : Stmt := topS 36
abbrev N_law_same_mask : List Str := ["_law_found", "_law_due_here", "_law_row"]
abbrev P_law_same_mask : List Str := ["_law_found", "_law_due_here"]
theorem sc_law_same_mask : FnScope N_law_same_mask P_law_same_mask (defScope s_law_same_mask) := ⟨rfl, rfl, rfl, by decide +kernel, rfl, by decide +kernel, by decide +kernel⟩
noncomputable def b_law_same_mask : MS :=
  (sSeq (sIf (mOr (mNot (mTru (mBi fIsi (mConsT (mVar 0) (mConsT (mC (.ty "tuple")) mNilT))))) (mOr (mB (mBin fNe (mVar 0) (mVar 1))) (mNot (mTru (mBi fIsi (mConsT (mBin fIx (mVar 0) (mC (.int 1))) (mConsT (mC (.ty "tuple")) mNilT))))))) (sRet (mC (.bl false))) sNext) (sRet (mAndV (mCall m_law_whole [] (mCons (mBin fIx (mVar 0) (mC (.int 0))) mNil)) (mBi fAll (mConsT (mComp (miA (mBin fIx (mVar 0) (mC (.int 1)))) (gN 2) mYes (mCall m_law_whole [] (mCons (mVar 2) mNil)) [2]) mNilT)))))
noncomputable def m_law_same_mask : List W → GH → R W := mDef 3 b_law_same_mask
theorem ok_law_same_mask {f : Addr} {fd : FuncData} {dvs : List V} (F : FunD K "_law_same_mask" "_law_same_mask" (defArgs s_law_same_mask) (defBody s_law_same_mask) (defScope s_law_same_mask) dvs [] f fd) (T : Tx K mg ca) (C_law_whole : Callable P w K mg base ca 1 "_law_whole" P_law_whole [] m_law_whole) : FnOk P w K mg base (L2N.CX P w) 2 f fd P_law_same_mask (spM K ca 2 m_law_same_mask) := by
  refine def_okD (N := N_law_same_mask) F sc_law_same_mask fun cdv A outer s H E hr => ?_
  have hu := hr.units
  have hu5 := hu_five hr
  have tk : L2N.Takes (cxOf (L2N.CX P w) P w K mg base N_law_same_mask "_law_same_mask" (defScope s_law_same_mask) f cdv A outer s H E) (fun c d _ H => E c d H) := L2N.takes_of rfl rfl rfl rfl
  exact (b_cons (s_if (PW.pt (w_or (s_tnot (s_truth (s_bi call_isi says_isi (by rfl) T.n_isinstance bt_isinstance (c_cons (s_var (i := 0) rfl (.inl rfl)) (c_cons (s_ty (by rfl) T.n_tuple bt_tuple) c_nil))))) (w_or (s_testCmp (op_neD hu) says_ne (s_var (i := 0) rfl (.inl rfl)) (s_var (i := 1) rfl (.inl rfl)) (nomark _)) (w_or1 (s_tnot (s_truth (s_bi call_isi says_isi (by rfl) T.n_isinstance bt_isinstance (c_cons (s_ix (s_var (i := 0) rfl (.inl rfl)) s_int) (c_cons (s_ty (by rfl) T.n_tuple bt_tuple) c_nil))))))))) (b_one (s_ret s_bl)) b_nil) (b_one (s_ret (v_and (s_call C_law_whole (hr.mono (by decide)) (by rfl) tk (a_cons (s_ix (s_var (i := 0) rfl (.inl rfl)) s_int) a_nil) (len_dws (len_cons len_nil) rfl)) (v_one (s_bi (cr_all rfl) says_all (by rfl) T.n_all bt_all (c_cons (s_lc (own := [("_law_row", 2)]) rfl sc_law_same_mask.nd (i_any (s_ix (s_var (i := 0) rfl (.inl rfl)) s_int)) (blkOk_by (N := N_law_same_mask) (sc := defScope s_law_same_mask) (by decide +kernel)) (fun _ _ _ _ _ => (pg_name (i := 2) sc_law_same_mask.nd rfl (by first | exact .inl rfl | exact .inr rfl))) tgt_name (own_name (by decide)) (fun _ _ _ _ _ => ts_nil) (fun _ _ _ _ _ => (s_call C_law_whole (hr.mono (by decide)) (by rfl) takesN (a_cons (s_var (i := 2) rfl (by first | exact .inl rfl | exact .inr (.inl rfl))) a_nil) (len_dws (len_cons len_nil) rfl)))) c_nil)))))))
abbrev s_law_class : Stmt := topS 37
abbrev N_law_class : List Str := ["_law_error", "_law_words"]
abbrev P_law_class : List Str := ["_law_error"]
theorem sc_law_class : FnScope N_law_class P_law_class (defScope s_law_class) := ⟨rfl, rfl, rfl, by decide +kernel, rfl, by decide +kernel, by decide +kernel⟩
noncomputable def b_law_class (c : Nat) (a : Addr) : MS :=
  (sSeq (sSet 1 (mBin fMul (mC (.str "value ")) (mBi fInt (mConsT (mBi (fIsE it c a) (mConsT (mVar 0) (mConsT (mC (.ty "ValueError")) mNilT))) mNilT)))) (sSeq (sSet 1 (mBin fAdd (mBin fAdd (mVar 1) (mBin fMul (mC (.str "picture")) (mBi fInt (mConsT (mBi (fIsE it c a) (mConsT (mVar 0) (mConsT (mC (.cls 1)) mNilT))) mNilT)))) (mBin fMul (mC (.str "cell")) (mBi fInt (mConsT (mBi (fIsE it c a) (mConsT (mVar 0) (mConsT (mC (.cls 2)) mNilT))) mNilT))))) (sSeq (sSet 1 (mBin fAdd (mBin fAdd (mVar 1) (mBin fMul (mC (.str "size")) (mBi fInt (mConsT (mBi (fIsE it c a) (mConsT (mVar 0) (mConsT (mC (.cls 3)) mNilT))) mNilT)))) (mBin fMul (mC (.str "mask")) (mBi fInt (mConsT (mBi (fIsE it c a) (mConsT (mVar 0) (mConsT (mC (.cls 5)) mNilT))) mNilT))))) (sSeq (sSet 1 (mBin fAdd (mBin fAdd (mVar 1) (mBin fMul (mC (.str "place")) (mBi fInt (mConsT (mBi (fIsE it c a) (mConsT (mVar 0) (mConsT (mC (.cls 4)) mNilT))) mNilT)))) (mBin fMul (mC (.str "edge")) (mBi fInt (mConsT (mBi (fIsE it c a) (mConsT (mVar 0) (mConsT (mC (.cls 7)) mNilT))) mNilT))))) (sRet (mBin fAdd (mVar 1) (mBin fMul (mC (.str "rule")) (mBi fInt (mConsT (mBi (fIsE it c a) (mConsT (mVar 0) (mConsT (mC (.cls 6)) mNilT))) mNilT)))))))))
noncomputable def m_law_class (c : Nat) (a : Addr) : List W → GH → R W := mDef 2 (b_law_class c a)
theorem ok_law_class {f : Addr} {fd : FuncData} (F : FunD K "_law_class" "_law_class" (defArgs s_law_class) (defBody s_law_class) (defScope s_law_class) [] [] f fd) (T : Tx K mg ca) : FnX P w K mg base ca 1 f fd P_law_class (fun c a => spM K ca 1 (m_law_class c a)) := by
  refine def_okX (N := N_law_class) (mb := b_law_class) F sc_law_class fun cdv A outer s H E p c hr hx => ?_
  have hu5 := hu_hot hr
  have hu := Nat.lt_of_le_of_lt (Nat.add_le_add_left (show 64 ≤ 65 by decide) _) hu5
  show PSs _ _ (tS _ _ _ (b_law_class c p.1))
  generalize p.1 = a at hx ⊢
  exact (b_cons (s_set (i := 1) sc_law_class.nd rfl (.inl rfl) (s_bin op_mulA says_mul s_str (s_bty call_int1 says_int (by rfl) T.n_int bt_int (c_cons (s_bi (call_isX' hx) (says_isE T.E) (by rfl) T.n_isinstance bt_isinstance (c_cons (s_var (i := 0) rfl (.inl rfl)) (c_cons (s_ty (by rfl) T.n_ValueError bt_ValueError) c_nil))) c_nil)))) (b_cons (s_set (i := 1) sc_law_class.nd rfl (.inl rfl) (s_bin op_addA says_add (s_bin op_addA says_add (s_var (i := 1) rfl (.inl rfl)) (s_bin op_mulA says_mul s_str (s_bty call_int1 says_int (by rfl) T.n_int bt_int (c_cons (s_bi (call_isX' hx) (says_isE T.E) (by rfl) T.n_isinstance bt_isinstance (c_cons (s_var (i := 0) rfl (.inl rfl)) (c_cons (s_glob (by rfl) (konW_cls T.g_BadPicture)) c_nil))) c_nil)))) (s_bin op_mulA says_mul s_str (s_bty call_int1 says_int (by rfl) T.n_int bt_int (c_cons (s_bi (call_isX' hx) (says_isE T.E) (by rfl) T.n_isinstance bt_isinstance (c_cons (s_var (i := 0) rfl (.inl rfl)) (c_cons (s_glob (by rfl) (konW_cls T.g_BadCell)) c_nil))) c_nil))))) (b_cons (s_set (i := 1) sc_law_class.nd rfl (.inl rfl) (s_bin op_addA says_add (s_bin op_addA says_add (s_var (i := 1) rfl (.inl rfl)) (s_bin op_mulA says_mul s_str (s_bty call_int1 says_int (by rfl) T.n_int bt_int (c_cons (s_bi (call_isX' hx) (says_isE T.E) (by rfl) T.n_isinstance bt_isinstance (c_cons (s_var (i := 0) rfl (.inl rfl)) (c_cons (s_glob (by rfl) (konW_cls T.g_BadSize)) c_nil))) c_nil)))) (s_bin op_mulA says_mul s_str (s_bty call_int1 says_int (by rfl) T.n_int bt_int (c_cons (s_bi (call_isX' hx) (says_isE T.E) (by rfl) T.n_isinstance bt_isinstance (c_cons (s_var (i := 0) rfl (.inl rfl)) (c_cons (s_glob (by rfl) (konW_cls T.g_BadMask)) c_nil))) c_nil))))) (b_cons (s_set (i := 1) sc_law_class.nd rfl (.inl rfl) (s_bin op_addA says_add (s_bin op_addA says_add (s_var (i := 1) rfl (.inl rfl)) (s_bin op_mulA says_mul s_str (s_bty call_int1 says_int (by rfl) T.n_int bt_int (c_cons (s_bi (call_isX' hx) (says_isE T.E) (by rfl) T.n_isinstance bt_isinstance (c_cons (s_var (i := 0) rfl (.inl rfl)) (c_cons (s_glob (by rfl) (konW_cls T.g_OutOfPlace)) c_nil))) c_nil)))) (s_bin op_mulA says_mul s_str (s_bty call_int1 says_int (by rfl) T.n_int bt_int (c_cons (s_bi (call_isX' hx) (says_isE T.E) (by rfl) T.n_isinstance bt_isinstance (c_cons (s_var (i := 0) rfl (.inl rfl)) (c_cons (s_glob (by rfl) (konW_cls T.g_BadEdge)) c_nil))) c_nil))))) (b_one (s_ret (s_bin op_addA says_add (s_var (i := 1) rfl (.inl rfl)) (s_bin op_mulA says_mul s_str (s_bty call_int1 says_int (by rfl) T.n_int bt_int (c_cons (s_bi (call_isX' hx) (says_isE T.E) (by rfl) T.n_isinstance bt_isinstance (c_cons (s_var (i := 0) rfl (.inl rfl)) (c_cons (s_glob (by rfl) (konW_cls T.g_BadRule)) c_nil))) c_nil))))))))))
abbrev s_law_wrong_mask : Stmt := topS 38
abbrev N_law_wrong_mask : List Str := ["_law_number", "_law_mask_here", "_law_full", "_law_odd", "_law_rows", "_law_some", "_law_wide", "_law_y"]
abbrev P_law_wrong_mask : List Str := ["_law_number", "_law_mask_here"]
theorem sc_law_wrong_mask : FnScope N_law_wrong_mask P_law_wrong_mask (defScope s_law_wrong_mask) := ⟨rfl, rfl, rfl, by decide +kernel, rfl, by decide +kernel, by decide +kernel⟩
noncomputable def b_law_wrong_mask : MS :=
  (sSeq (sAsg (gT (gC (gN 6) (gC (gN 4) gE))) (mVar 1)) (sSeq (sSet 7 (mBin fMod (mBin fFdiv (mVar 0) (mC (.int 20))) (mBi fLen (mConsT (mVar 4) mNilT)))) (sSeq (sSet 2 (mCall m_law_power [] (mCons (mVar 6) mNil))) (sSeq (sSet 3 (mBin fIx (mLst (mCons (mVar 2) (mCons (mUn fNeg (mC (.int 1))) (mCons (mC (.bl true)) (mCons (mC .non) (mCons (mC (.str "0")) (mCons (mTup (mCons (mC (.int 0)) mNil)) (mCons (mBin fPow (mC (.int 10)) (mC (.int 30))) (mCons (mC (.bl false)) mNil))))))))) (mBin fMod (mBin fFdiv (mVar 0) (mC (.int 500))) (mC (.int 8))))) (sSeq (sSet 5 (mLst (mCons (mTup (mCons (mVar 6) (mCons (mBin fAdd (mBin fAdd (mSl (mVar 4) mNoP (mP (mVar 7))) (mTup (mCons (mVar 3) mNil))) (mSl (mVar 4) (mP (mBin fAdd (mVar 7) (mC (.int 1)))) mNoP)) mNil))) (mCons (mTup (mCons (mVar 6) (mCons (mBi fList (mConsT (mVar 4) mNilT)) mNil))) (mCons (mLst (mCons (mVar 6) (mCons (mVar 4) mNil))) (mCons (mTup (mCons (mVar 6) mNil)) (mCons (mTup (mCons (mVar 6) (mCons (mVar 4) (mCons (mC (.int 0)) mNil)))) mNil))))))) (sSeq (sSet 5 (mBin fAdd (mVar 5) (mLst (mCons (mTup (mCons (mC (.int 0)) (mCons (mVar 4) mNil))) (mCons (mTup (mCons (mC (.int 25)) (mCons (mVar 4) mNil))) (mCons (mTup (mCons (mC (.bl true)) (mCons (mTup (mCons (mC (.int 0)) mNil)) mNil))) (mCons (mTup (mCons (mC .non) (mCons (mVar 4) mNil))) (mCons (mTup (mCons (mVar 6) (mCons (mTup mNil) mNil))) (mCons (mTup (mCons (mVar 6) (mCons (mBin fMul (mTup (mCons (mC (.int 0)) mNil)) (mC (.int 25))) mNil))) mNil))))))))) (sSeq (sSet 5 (mBin fAdd (mVar 5) (mLst (mCons (mTup (mCons (mBi fStr (mConsT (mVar 6) mNilT)) (mCons (mVar 4) mNil))) (mCons (mC .non) (mCons (mTup mNil) (mCons (mC (.int 5)) (mCons (mC (.str "mask")) (mCons mDict0 (mCons (mBin fIx (mVar 5) (mC (.int 0))) (mCons (mBin fIx (mVar 5) (mC (.int 0))) (mCons (mBin fIx (mVar 5) (mC (.int 0))) mNil)))))))))))) (sRet (mBin fIx (mVar 5) (mBin fMod (mVar 0) (mC (.int 20))))))))))))
noncomputable def m_law_wrong_mask : List W → GH → R W := mDef 8 b_law_wrong_mask
theorem ok_law_wrong_mask {f : Addr} {fd : FuncData} {dvs : List V} (F : FunD K "_law_wrong_mask" "_law_wrong_mask" (defArgs s_law_wrong_mask) (defBody s_law_wrong_mask) (defScope s_law_wrong_mask) dvs [] f fd) (T : Tx K mg ca) (C_law_power : Callable P w K mg base ca 1 "_law_power" P_law_power [] m_law_power) : FnOk P w K mg base (L2N.CX P w) 2 f fd P_law_wrong_mask (spM K ca 2 m_law_wrong_mask) := by
  refine def_okD (N := N_law_wrong_mask) F sc_law_wrong_mask fun cdv A outer s H E hr => ?_
  have hu := hr.units
  have hu5 := hu_five hr
  have tk : L2N.Takes (cxOf (L2N.CX P w) P w K mg base N_law_wrong_mask "_law_wrong_mask" (defScope s_law_wrong_mask) f cdv A outer s H E) (fun c d _ H => E c d H) := L2N.takes_of rfl rfl rfl rfl
  exact (b_cons (s_asg (s_var (i := 1) rfl (.inl rfl)) (g_tup rfl (g_cons (g_name (i := 6) sc_law_wrong_mask.nd rfl (.inl rfl)) (g_cons (g_name (i := 4) sc_law_wrong_mask.nd rfl (.inl rfl)) g_nil)) (gl_cons (gl_cons gl_nil)))) (b_cons (s_set (i := 7) sc_law_wrong_mask.nd rfl (.inl rfl) (s_bin op_mod says_mod (s_bin op_fdivW says_fdiv (s_var (i := 0) rfl (.inl rfl)) s_int) (s_bi call_len says_len (by rfl) T.n_len bt_len (c_cons (s_var (i := 4) rfl (.inl rfl)) c_nil)))) (b_cons (s_set (i := 2) sc_law_wrong_mask.nd rfl (.inl rfl) (s_call C_law_power (hr.mono (by decide)) (by rfl) tk (a_cons (s_var (i := 6) rfl (.inl rfl)) a_nil) (len_dws (len_cons len_nil) rfl))) (b_cons (s_set (i := 3) sc_law_wrong_mask.nd rfl (.inl rfl) (s_ix (s_lst (a_cons (s_var (i := 2) rfl (.inl rfl)) (a_cons (s_neg s_int) (a_cons s_bl (a_cons s_non (a_cons s_str (a_cons (s_tup (a_cons s_int a_nil)) (a_cons (s_bin op_pow says_pow s_int s_int) (a_cons s_bl a_nil))))))))) (s_bin op_mod says_mod (s_bin op_fdivW says_fdiv (s_var (i := 0) rfl (.inl rfl)) s_int) s_int))) (b_cons (s_set (i := 5) sc_law_wrong_mask.nd rfl (.inl rfl) (s_lst (a_cons (s_tup (a_cons (s_var (i := 6) rfl (.inl rfl)) (a_cons (s_bin op_addA says_add (s_bin op_addA says_add (s_sl (s_var (i := 4) rfl (.inl rfl)) o_none (o_some (s_var (i := 7) rfl (.inl rfl)))) (s_tup (a_cons (s_var (i := 3) rfl (.inl rfl)) a_nil))) (s_sl (s_var (i := 4) rfl (.inl rfl)) (o_some (s_bin op_addA says_add (s_var (i := 7) rfl (.inl rfl)) s_int)) o_none)) a_nil))) (a_cons (s_tup (a_cons (s_var (i := 6) rfl (.inl rfl)) (a_cons (s_bty call_list_of says_list (by rfl) T.n_list bt_list (c_cons (s_var (i := 4) rfl (.inl rfl)) c_nil)) a_nil))) (a_cons (s_lst (a_cons (s_var (i := 6) rfl (.inl rfl)) (a_cons (s_var (i := 4) rfl (.inl rfl)) a_nil))) (a_cons (s_tup (a_cons (s_var (i := 6) rfl (.inl rfl)) a_nil)) (a_cons (s_tup (a_cons (s_var (i := 6) rfl (.inl rfl)) (a_cons (s_var (i := 4) rfl (.inl rfl)) (a_cons s_int a_nil)))) a_nil))))))) (b_cons (s_set (i := 5) sc_law_wrong_mask.nd rfl (.inl rfl) (s_bin op_addA says_add (s_var (i := 5) rfl (.inl rfl)) (s_lst (a_cons (s_tup (a_cons s_int (a_cons (s_var (i := 4) rfl (.inl rfl)) a_nil))) (a_cons (s_tup (a_cons s_int (a_cons (s_var (i := 4) rfl (.inl rfl)) a_nil))) (a_cons (s_tup (a_cons s_bl (a_cons (s_tup (a_cons s_int a_nil)) a_nil))) (a_cons (s_tup (a_cons s_non (a_cons (s_var (i := 4) rfl (.inl rfl)) a_nil))) (a_cons (s_tup (a_cons (s_var (i := 6) rfl (.inl rfl)) (a_cons (s_tup a_nil) a_nil))) (a_cons (s_tup (a_cons (s_var (i := 6) rfl (.inl rfl)) (a_cons (s_bin op_mulA says_mul (s_tup (a_cons s_int a_nil)) s_int) a_nil))) a_nil))))))))) (b_cons (s_set (i := 5) sc_law_wrong_mask.nd rfl (.inl rfl) (s_bin op_addA says_add (s_var (i := 5) rfl (.inl rfl)) (s_lst (a_cons (s_tup (a_cons (s_bty call_str_int says_strI (by rfl) T.n_str bt_str (c_cons (s_var (i := 6) rfl (.inl rfl)) c_nil)) (a_cons (s_var (i := 4) rfl (.inl rfl)) a_nil))) (a_cons s_non (a_cons (s_tup a_nil) (a_cons s_int (a_cons s_str (a_cons s_dict0 (a_cons (s_ix (s_var (i := 5) rfl (.inl rfl)) s_int) (a_cons (s_ix (s_var (i := 5) rfl (.inl rfl)) s_int) (a_cons (s_ix (s_var (i := 5) rfl (.inl rfl)) s_int) a_nil)))))))))))) (b_one (s_ret (s_ix (s_var (i := 5) rfl (.inl rfl)) (s_bin op_mod says_mod (s_var (i := 0) rfl (.inl rfl)) s_int)))))))))))
abbrev s_law_asked : Stmt := topS 39
abbrev N_law_asked : List Str := ["_law_which", "_law_one", "_law_other"]
abbrev P_law_asked : List Str := ["_law_which", "_law_one", "_law_other"]
theorem sc_law_asked : FnScope N_law_asked P_law_asked (defScope s_law_asked) := ⟨rfl, rfl, rfl, by decide +kernel, rfl, by decide +kernel, by decide +kernel⟩
noncomputable def b_law_asked : MS :=
  (sSeq (sIf (mB (mBin fEq (mVar 0) (mC (.int 0)))) (sRet (mCall m_both_masks [] (mCons (mVar 1) (mCons (mVar 2) mNil)))) sNext) (sSeq (sIf (mB (mBin fEq (mVar 0) (mC (.int 1)))) (sRet (mCall m_either_mask [] (mCons (mVar 1) (mCons (mVar 2) mNil)))) sNext) (sSeq (sIf (mB (mBin fEq (mVar 0) (mC (.int 2)))) (sRet (mCall m_one_mask [] (mCons (mVar 1) (mCons (mVar 2) mNil)))) sNext) (sSeq (sIf (mB (mBin fEq (mVar 0) (mC (.int 3)))) (sRet (mCall m_less_mask [] (mCons (mVar 1) (mCons (mVar 2) mNil)))) sNext) (sSeq (sIf (mB (mBin fEq (mVar 0) (mC (.int 4)))) (sRet (mCall m_other_mask [] (mCons (mVar 1) mNil))) sNext) (sSeq (sIf (mB (mBin fEq (mVar 0) (mC (.int 5)))) (sRet (mCall m_many_in_mask [] (mCons (mVar 1) mNil))) sNext) (sRet (mCall m_cells_in_mask [] (mCons (mVar 1) mNil)))))))))
noncomputable def m_law_asked : List W → GH → R W := mDef 3 b_law_asked
theorem ok_law_asked {f : Addr} {fd : FuncData} {dvs : List V} (F : FunD K "_law_asked" "_law_asked" (defArgs s_law_asked) (defBody s_law_asked) (defScope s_law_asked) dvs [] f fd) (T : Tx K mg ca) (C_both_masks : Callable P w K mg base ca 4 "both_masks" P_both_masks [] m_both_masks) (C_cells_in_mask : Callable P w K mg base ca 4 "cells_in_mask" P_cells_in_mask [] m_cells_in_mask) (C_either_mask : Callable P w K mg base ca 4 "either_mask" P_either_mask [] m_either_mask) (C_less_mask : Callable P w K mg base ca 4 "less_mask" P_less_mask [] m_less_mask) (C_many_in_mask : Callable P w K mg base ca 4 "many_in_mask" P_many_in_mask [] m_many_in_mask) (C_one_mask : Callable P w K mg base ca 4 "one_mask" P_one_mask [] m_one_mask) (C_other_mask : Callable P w K mg base ca 5 "other_mask" P_other_mask [] m_other_mask) : FnOk P w K mg base (L2N.CX P w) 6 f fd P_law_asked (spM K ca 3 m_law_asked) := by
  refine def_okD (N := N_law_asked) F sc_law_asked fun cdv A outer s H E hr => ?_
  have hu := hr.units
  have hu5 := hu_five hr
  have tk : L2N.Takes (cxOf (L2N.CX P w) P w K mg base N_law_asked "_law_asked" (defScope s_law_asked) f cdv A outer s H E) (fun c d _ H => E c d H) := L2N.takes_of rfl rfl rfl rfl
  exact (b_cons (s_if (s_testCmp (op_eqD hu) says_eq (s_var (i := 0) rfl (.inl rfl)) s_int (nomark _)) (b_one (s_ret (s_call C_both_masks (hr.mono (by decide)) (by rfl) tk (a_cons (s_var (i := 1) rfl (.inl rfl)) (a_cons (s_var (i := 2) rfl (.inl rfl)) a_nil)) (len_dws (len_cons (len_cons len_nil)) rfl)))) b_nil) (b_cons (s_if (s_testCmp (op_eqD hu) says_eq (s_var (i := 0) rfl (.inl rfl)) s_int (nomark _)) (b_one (s_ret (s_call C_either_mask (hr.mono (by decide)) (by rfl) tk (a_cons (s_var (i := 1) rfl (.inl rfl)) (a_cons (s_var (i := 2) rfl (.inl rfl)) a_nil)) (len_dws (len_cons (len_cons len_nil)) rfl)))) b_nil) (b_cons (s_if (s_testCmp (op_eqD hu) says_eq (s_var (i := 0) rfl (.inl rfl)) s_int (nomark _)) (b_one (s_ret (s_call C_one_mask (hr.mono (by decide)) (by rfl) tk (a_cons (s_var (i := 1) rfl (.inl rfl)) (a_cons (s_var (i := 2) rfl (.inl rfl)) a_nil)) (len_dws (len_cons (len_cons len_nil)) rfl)))) b_nil) (b_cons (s_if (s_testCmp (op_eqD hu) says_eq (s_var (i := 0) rfl (.inl rfl)) s_int (nomark _)) (b_one (s_ret (s_call C_less_mask (hr.mono (by decide)) (by rfl) tk (a_cons (s_var (i := 1) rfl (.inl rfl)) (a_cons (s_var (i := 2) rfl (.inl rfl)) a_nil)) (len_dws (len_cons (len_cons len_nil)) rfl)))) b_nil) (b_cons (s_if (s_testCmp (op_eqD hu) says_eq (s_var (i := 0) rfl (.inl rfl)) s_int (nomark _)) (b_one (s_ret (s_call C_other_mask (hr.mono (by decide)) (by rfl) tk (a_cons (s_var (i := 1) rfl (.inl rfl)) a_nil) (len_dws (len_cons len_nil) rfl)))) b_nil) (b_cons (s_if (s_testCmp (op_eqD hu) says_eq (s_var (i := 0) rfl (.inl rfl)) s_int (nomark _)) (b_one (s_ret (s_call C_many_in_mask (hr.mono (by decide)) (by rfl) tk (a_cons (s_var (i := 1) rfl (.inl rfl)) a_nil) (len_dws (len_cons len_nil) rfl)))) b_nil) (b_one (s_ret (s_call C_cells_in_mask (hr.mono (by decide)) (by rfl) tk (a_cons (s_var (i := 1) rfl (.inl rfl)) a_nil) (len_dws (len_cons len_nil) rfl))))))))))
abbrev s_law_word : Stmt := topS 40
abbrev N_law_word : List Str := ["_law_which", "_law_one", "_law_other", "_law_error"]
abbrev P_law_word : List Str := ["_law_which", "_law_one", "_law_other"]
theorem sc_law_word : FnScope N_law_word P_law_word (defScope s_law_word) := ⟨rfl, rfl, rfl, by decide +kernel, rfl, by decide +kernel, by decide +kernel⟩
noncomputable def b_law_word : MS :=
  (sSeq (sTry xt 0 3 (sDrop (mCall m_law_asked [] (mCons (mVar 0) (mCons (mVar 1) (mCons (mVar 2) mNil))))) (fun c a => (sRet (mCall (m_law_class c a) [] (mCons (mVar 3) mNil))))) (sRet (mC (.str ""))))
noncomputable def m_law_word : List W → GH → R W := mDef 4 b_law_word
theorem ok_law_word {f : Addr} {fd : FuncData} {dvs : List V} (F : FunD K "_law_word" "_law_word" (defArgs s_law_word) (defBody s_law_word) (defScope s_law_word) dvs [] f fd) (T : Tx K mg ca) (C_law_asked : Callable P w K mg base ca 6 "_law_asked" P_law_asked [] m_law_asked) (C_law_class : CallX P w K mg base ca 1 "_law_class" P_law_class m_law_class) : FnOk P w K mg base (L2N.CX P w) 7 f fd P_law_word (spM K ca 3 m_law_word) := by
  refine def_okD (N := N_law_word) F sc_law_word fun cdv A outer s H E hr => ?_
  have hu := hr.units
  have hu5 := hu_five hr
  have tk : L2N.Takes (cxOf (L2N.CX P w) P w K mg base N_law_word "_law_word" (defScope s_law_word) f cdv A outer s H E) (fun c d _ H => E c d H) := L2N.takes_of rfl rfl rfl rfl
  exact (b_cons (s_try (i := 3) T.E rfl rfl sc_law_word.nd rfl rfl ⟨by rfl, by decide, .inl T.g_FolioError⟩ tk (fun W pn xe tk pass => (b_one (s_expr (s_call C_law_asked (hr.mono (by decide)) (by rfl) tk (a_cons (s_var (i := 0) rfl (.inl rfl)) (a_cons (s_var (i := 1) rfl (.inl rfl)) (a_cons (s_var (i := 2) rfl (.inl rfl)) a_nil))) (len_dws (len_cons (len_cons (len_cons len_nil))) rfl))))) (fun c a oe pn hx => (b_one (s_ret (s_callX C_law_class (roomX hr _ (by decide)) hx (by rfl) (a_cons (s_var (i := 3) rfl (.inl rfl)) a_nil) (len_dws (len_cons len_nil) rfl)))))) (b_one (s_ret s_str)))
abbrev s_law_full_word : Stmt := topS 41
abbrev N_law_full_word : List Str := ["_law_wide", "_law_high", "_law_error"]
abbrev P_law_full_word : List Str := ["_law_wide", "_law_high"]
theorem sc_law_full_word : FnScope N_law_full_word P_law_full_word (defScope s_law_full_word) := ⟨rfl, rfl, rfl, by decide +kernel, rfl, by decide +kernel, by decide +kernel⟩
noncomputable def b_law_full_word : MS :=
  (sSeq (sTry xt 0 2 (sDrop (mCall m_full_mask [] (mCons (mVar 0) (mCons (mVar 1) mNil)))) (fun c a => (sRet (mCall (m_law_class c a) [] (mCons (mVar 2) mNil))))) (sRet (mC (.str ""))))
noncomputable def m_law_full_word : List W → GH → R W := mDef 3 b_law_full_word
theorem ok_law_full_word {f : Addr} {fd : FuncData} {dvs : List V} (F : FunD K "_law_full_word" "_law_full_word" (defArgs s_law_full_word) (defBody s_law_full_word) (defScope s_law_full_word) dvs [] f fd) (T : Tx K mg ca) (C_law_class : CallX P w K mg base ca 1 "_law_class" P_law_class m_law_class) (C_full_mask : Callable P w K mg base ca 3 "full_mask" P_full_mask [] m_full_mask) : FnOk P w K mg base (L2N.CX P w) 4 f fd P_law_full_word (spM K ca 2 m_law_full_word) := by
  refine def_okD (N := N_law_full_word) F sc_law_full_word fun cdv A outer s H E hr => ?_
  have hu := hr.units
  have hu5 := hu_five hr
  have tk : L2N.Takes (cxOf (L2N.CX P w) P w K mg base N_law_full_word "_law_full_word" (defScope s_law_full_word) f cdv A outer s H E) (fun c d _ H => E c d H) := L2N.takes_of rfl rfl rfl rfl
  exact (b_cons (s_try (i := 2) T.E rfl rfl sc_law_full_word.nd rfl rfl ⟨by rfl, by decide, .inl T.g_FolioError⟩ tk (fun W pn xe tk pass => (b_one (s_expr (s_call C_full_mask (hr.mono (by decide)) (by rfl) tk (a_cons (s_var (i := 0) rfl (.inl rfl)) (a_cons (s_var (i := 1) rfl (.inl rfl)) a_nil)) (len_dws (len_cons (len_cons len_nil)) rfl))))) (fun c a oe pn hx => (b_one (s_ret (s_callX C_law_class (roomX hr _ (by decide)) hx (by rfl) (a_cons (s_var (i := 2) rfl (.inl rfl)) a_nil) (len_dws (len_cons len_nil) rfl)))))) (b_one (s_ret s_str)))
abbrev s_law_due : Stmt := topS 42
abbrev N_law_due : List Str := ["_law_which", "_law_ones", "_law_others", "_law_place"]
abbrev P_law_due : List Str := ["_law_which", "_law_ones", "_law_others"]
theorem sc_law_due : FnScope N_law_due P_law_due (defScope s_law_due) := ⟨rfl, rfl, rfl, by decide +kernel, rfl, by decide +kernel, by decide +kernel⟩
noncomputable def b_law_due : MS :=
  (sSeq (sIf (mB (mBin fEq (mVar 0) (mC (.int 0)))) (sRet (mComp (miA (mVar 1)) (gN 3) (mB (mBin fIn (mVar 3) (mVar 2))) (mVar 3) [3])) sNext) (sSeq (sIf (mB (mBin fEq (mVar 0) (mC (.int 1)))) (sRet (mBin fAdd (mVar 1) (mComp (miA (mVar 2)) (gN 3) (mB (mBin fNotIn (mVar 3) (mVar 1))) (mVar 3) [3]))) sNext) (sSeq (sIf (mB (mBin fEq (mVar 0) (mC (.int 2)))) (sRet (mBin fAdd (mComp (miA (mVar 1)) (gN 3) (mB (mBin fNotIn (mVar 3) (mVar 2))) (mVar 3) [3]) (mComp (miA (mVar 2)) (gN 3) (mB (mBin fNotIn (mVar 3) (mVar 1))) (mVar 3) [3]))) sNext) (sRet (mComp (miA (mVar 1)) (gN 3) (mB (mBin fNotIn (mVar 3) (mVar 2))) (mVar 3) [3])))))
noncomputable def m_law_due : List W → GH → R W := mDef 4 b_law_due
theorem ok_law_due {f : Addr} {fd : FuncData} {dvs : List V} (F : FunD K "_law_due" "_law_due" (defArgs s_law_due) (defBody s_law_due) (defScope s_law_due) dvs [] f fd) (T : Tx K mg ca) : FnOk P w K mg base (L2N.CX P w) 1 f fd P_law_due (spM K ca 3 m_law_due) := by
  refine def_okD (N := N_law_due) F sc_law_due fun cdv A outer s H E hr => ?_
  have hu := hr.units
  have hu5 := hu_five hr
  have tk : L2N.Takes (cxOf (L2N.CX P w) P w K mg base N_law_due "_law_due" (defScope s_law_due) f cdv A outer s H E) (fun c d _ H => E c d H) := L2N.takes_of rfl rfl rfl rfl
  exact (b_cons (s_if (s_testCmp (op_eqD hu) says_eq (s_var (i := 0) rfl (.inl rfl)) s_int (nomark _)) (b_one (s_ret (s_lc (own := [("_law_place", 3)]) rfl sc_law_due.nd (i_any (s_var (i := 1) rfl (.inr (.inl rfl)))) (blkOk_by (N := N_law_due) (sc := defScope s_law_due) (by decide +kernel)) (fun _ _ _ _ _ => (pg_name (i := 3) sc_law_due.nd rfl (by first | exact .inl rfl | exact .inr rfl))) tgt_name (own_name (by decide)) (fun _ _ _ _ _ => (ts_one (s_testCmp (op_inA hu5) says_isin (s_var (i := 3) rfl (by first | exact .inl rfl | exact .inr (.inl rfl))) (s_var (i := 2) rfl (by first | exact .inr (.inl rfl) | exact .inr (.inr rfl) | exact .inl rfl)) (by rfl)))) (fun _ _ _ _ _ => (s_var (i := 3) rfl (by first | exact .inl rfl | exact .inr (.inl rfl))))))) b_nil) (b_cons (s_if (s_testCmp (op_eqD hu) says_eq (s_var (i := 0) rfl (.inl rfl)) s_int (nomark _)) (b_one (s_ret (s_bin op_addA says_add (s_var (i := 1) rfl (.inr (.inl rfl))) (s_lc (own := [("_law_place", 3)]) rfl sc_law_due.nd (i_any (s_var (i := 2) rfl (.inr (.inl rfl)))) (blkOk_by (N := N_law_due) (sc := defScope s_law_due) (by decide +kernel)) (fun _ _ _ _ _ => (pg_name (i := 3) sc_law_due.nd rfl (by first | exact .inl rfl | exact .inr rfl))) tgt_name (own_name (by decide)) (fun _ _ _ _ _ => (ts_one (s_testCmp (op_notInA hu5) says_notIn (s_var (i := 3) rfl (by first | exact .inl rfl | exact .inr (.inl rfl))) (s_var (i := 1) rfl (by first | exact .inr (.inl rfl) | exact .inr (.inr rfl) | exact .inl rfl)) (by rfl)))) (fun _ _ _ _ _ => (s_var (i := 3) rfl (by first | exact .inl rfl | exact .inr (.inl rfl)))))))) b_nil) (b_cons (s_if (s_testCmp (op_eqD hu) says_eq (s_var (i := 0) rfl (.inl rfl)) s_int (nomark _)) (b_one (s_ret (s_bin op_addA says_add (s_lc (own := [("_law_place", 3)]) rfl sc_law_due.nd (i_any (s_var (i := 1) rfl (.inr (.inl rfl)))) (blkOk_by (N := N_law_due) (sc := defScope s_law_due) (by decide +kernel)) (fun _ _ _ _ _ => (pg_name (i := 3) sc_law_due.nd rfl (by first | exact .inl rfl | exact .inr rfl))) tgt_name (own_name (by decide)) (fun _ _ _ _ _ => (ts_one (s_testCmp (op_notInA hu5) says_notIn (s_var (i := 3) rfl (by first | exact .inl rfl | exact .inr (.inl rfl))) (s_var (i := 2) rfl (by first | exact .inr (.inl rfl) | exact .inr (.inr rfl) | exact .inl rfl)) (by rfl)))) (fun _ _ _ _ _ => (s_var (i := 3) rfl (by first | exact .inl rfl | exact .inr (.inl rfl))))) (s_lc (own := [("_law_place", 3)]) rfl sc_law_due.nd (i_any (s_var (i := 2) rfl (.inr (.inl rfl)))) (blkOk_by (N := N_law_due) (sc := defScope s_law_due) (by decide +kernel)) (fun _ _ _ _ _ => (pg_name (i := 3) sc_law_due.nd rfl (by first | exact .inl rfl | exact .inr rfl))) tgt_name (own_name (by decide)) (fun _ _ _ _ _ => (ts_one (s_testCmp (op_notInA hu5) says_notIn (s_var (i := 3) rfl (by first | exact .inl rfl | exact .inr (.inl rfl))) (s_var (i := 1) rfl (by first | exact .inr (.inl rfl) | exact .inr (.inr rfl) | exact .inl rfl)) (by rfl)))) (fun _ _ _ _ _ => (s_var (i := 3) rfl (by first | exact .inl rfl | exact .inr (.inl rfl)))))))) b_nil) (b_one (s_ret (s_lc (own := [("_law_place", 3)]) rfl sc_law_due.nd (i_any (s_var (i := 1) rfl (.inr (.inl rfl)))) (blkOk_by (N := N_law_due) (sc := defScope s_law_due) (by decide +kernel)) (fun _ _ _ _ _ => (pg_name (i := 3) sc_law_due.nd rfl (by first | exact .inl rfl | exact .inr rfl))) tgt_name (own_name (by decide)) (fun _ _ _ _ _ => (ts_one (s_testCmp (op_notInA hu5) says_notIn (s_var (i := 3) rfl (by first | exact .inl rfl | exact .inr (.inl rfl))) (s_var (i := 2) rfl (by first | exact .inr (.inl rfl) | exact .inr (.inr rfl) | exact .inl rfl)) (by rfl)))) (fun _ _ _ _ _ => (s_var (i := 3) rfl (by first | exact .inl rfl | exact .inr (.inl rfl))))))))))
abbrev s_law_size : Stmt := topS 43
abbrev N_law_size : List Str := ["_law_number", "_law_high", "_law_wide"]
abbrev P_law_size : List Str := ["_law_number"]
theorem sc_law_size : FnScope N_law_size P_law_size (defScope s_law_size) := ⟨rfl, rfl, rfl, by decide +kernel, rfl, by decide +kernel, by decide +kernel⟩
noncomputable def b_law_size : MS :=
  (sSeq (sSet 2 (mBin fAdd (mC (.int 1)) (mBin fMod (mVar 0) (mC (.int 6))))) (sSeq (sSet 1 (mBin fAdd (mC (.int 1)) (mBin fMod (mBin fFdiv (mVar 0) (mC (.int 6))) (mC (.int 6))))) (sSeq (sIf (mB (mBin fEq (mBin fMod (mBin fFdiv (mVar 0) (mC (.int 36))) (mC (.int 8))) (mC (.int 1)))) (sSeq (sSet 2 (mBin fAdd (mC (.int 1)) (mBin fMod (mBin fFdiv (mVar 0) (mC (.int 300))) (mC (.int 24))))) (sSet 1 (mBi fMin (mConsT (mVar 1) (mConsT (mC (.int 2)) mNilT))))) sNext) (sSeq (sIf (mB (mBin fEq (mBin fMod (mBin fFdiv (mVar 0) (mC (.int 36))) (mC (.int 8))) (mC (.int 2)))) (sSeq (sSet 1 (mBin fAdd (mC (.int 1)) (mBin fMod (mBin fFdiv (mVar 0) (mC (.int 300))) (mC (.int 24))))) (sSet 2 (mBi fMin (mConsT (mVar 2) (mConsT (mC (.int 2)) mNilT))))) sNext) (sRet (mTup (mCons (mVar 2) (mCons (mVar 1) mNil))))))))
noncomputable def m_law_size : List W → GH → R W := mDef 3 b_law_size
theorem ok_law_size {f : Addr} {fd : FuncData} {dvs : List V} (F : FunD K "_law_size" "_law_size" (defArgs s_law_size) (defBody s_law_size) (defScope s_law_size) dvs [] f fd) (T : Tx K mg ca) : FnOk P w K mg base (L2N.CX P w) 1 f fd P_law_size (spM K ca 1 m_law_size) := by
  refine def_okD (N := N_law_size) F sc_law_size fun cdv A outer s H E hr => ?_
  have hu := hr.units
  have hu5 := hu_five hr
  have tk : L2N.Takes (cxOf (L2N.CX P w) P w K mg base N_law_size "_law_size" (defScope s_law_size) f cdv A outer s H E) (fun c d _ H => E c d H) := L2N.takes_of rfl rfl rfl rfl
  exact (b_cons (s_set (i := 2) sc_law_size.nd rfl (.inl rfl) (s_bin op_addA says_add s_int (s_bin op_mod says_mod (s_var (i := 0) rfl (.inl rfl)) s_int))) (b_cons (s_set (i := 1) sc_law_size.nd rfl (.inl rfl) (s_bin op_addA says_add s_int (s_bin op_mod says_mod (s_bin op_fdivW says_fdiv (s_var (i := 0) rfl (.inl rfl)) s_int) s_int))) (b_cons (s_if (s_testCmp (op_eqD hu) says_eq (s_bin op_mod says_mod (s_bin op_fdivW says_fdiv (s_var (i := 0) rfl (.inl rfl)) s_int) s_int) s_int (nomark _)) (b_cons (s_set (i := 2) sc_law_size.nd rfl (.inl rfl) (s_bin op_addA says_add s_int (s_bin op_mod says_mod (s_bin op_fdivW says_fdiv (s_var (i := 0) rfl (.inl rfl)) s_int) s_int))) (b_one (s_set (i := 1) sc_law_size.nd rfl (.inl rfl) (s_bi (call_min2 rfl) says_min (by rfl) T.n_min bt_min (c_cons (s_var (i := 1) rfl (.inl rfl)) (c_cons s_int c_nil)))))) b_nil) (b_cons (s_if (s_testCmp (op_eqD hu) says_eq (s_bin op_mod says_mod (s_bin op_fdivW says_fdiv (s_var (i := 0) rfl (.inl rfl)) s_int) s_int) s_int (nomark _)) (b_cons (s_set (i := 1) sc_law_size.nd rfl (.inl rfl) (s_bin op_addA says_add s_int (s_bin op_mod says_mod (s_bin op_fdivW says_fdiv (s_var (i := 0) rfl (.inl rfl)) s_int) s_int))) (b_one (s_set (i := 2) sc_law_size.nd rfl (.inl rfl) (s_bi (call_min2 rfl) says_min (by rfl) T.n_min bt_min (c_cons (s_var (i := 2) rfl (.inl rfl)) (c_cons s_int c_nil)))))) b_nil) (b_one (s_ret (s_tup (a_cons (s_var (i := 2) rfl (.inl rfl)) (a_cons (s_var (i := 1) rfl (.inl rfl)) a_nil)))))))))
abbrev s_law_alone_right : Stmt := topS 44
abbrev N_law_alone_right : List Str := ["_law_mask_here", "_law_found", "_law_lack", "_law_places_here", "_law_rows", "_law_whole_here", "_law_wide", "_law_place"]
abbrev P_law_alone_right : List Str := ["_law_mask_here"]
theorem sc_law_alone_right : FnScope N_law_alone_right P_law_alone_right (defScope s_law_alone_right) := ⟨rfl, rfl, rfl, by decide +kernel, rfl, by decide +kernel, by decide +kernel⟩
noncomputable def b_law_alone_right : MS :=
  (sSeq (sAsg (gT (gC (gN 6) (gC (gN 4) gE))) (mVar 0)) (sSeq (sSet 3 (mCall m_law_places [] (mCons (mVar 0) mNil))) (sSeq (sIf (mOr (mB (mBin fIsNot (mCall m_is_mask [] (mCons (mVar 0) mNil)) (mC (.bl true)))) (mOr (mNot (mTru (mCall m_law_whole [] (mCons (mCall m_many_in_mask [] (mCons (mVar 0) mNil)) mNil)))) (mB (mBin fNe (mCall m_many_in_mask [] (mCons (mVar 0) mNil)) (mBi fLen (mConsT (mVar 3) mNilT)))))) (sRet (mC (.bl false))) sNext) (sSeq (sSet 1 (mCall m_cells_in_mask [] (mCons (mVar 0) mNil))) (sSeq (sIf (mOr (mNot (mTru (mBi fIsi (mConsT (mVar 1) (mConsT (mC (.ty "list")) mNilT))))) (mB (mBin fNe (mVar 1) (mVar 3)))) (sRet (mC (.bl false))) sNext) (sSeq (sDrop (mMtF isLst fApp (mVar 1) (mCons (mC .non) mNil))) (sSeq (sSet 5 (mCall m_full_mask [] (mCons (mVar 6) (mCons (mBi fLen (mConsT (mVar 4) mNilT)) mNil)))) (sSeq (sSet 2 (mComp (miA (mCall m_law_places [] (mCons (mVar 5) mNil))) (gN 7) (mB (mBin fNotIn (mVar 7) (mVar 3))) (mVar 7) [7])) (sSeq (sIf (mOr (mNot (mTru (mCall m_law_same_mask [] (mCons (mVar 5) (mCons (mTup (mCons (mVar 6) (mCons (mBin fMul (mTup (mCons (mBin fSub (mCall m_law_power [] (mCons (mVar 6) mNil)) (mC (.int 1))) mNil)) (mBi fLen (mConsT (mVar 4) mNilT))) mNil))) mNil))))) (mB (mBin fNe (mCall m_cells_in_mask [] (mCons (mVar 0) mNil)) (mVar 3)))) (sRet (mC (.bl false))) sNext) (sRet (mCall m_law_same_mask [] (mCons (mCall m_other_mask [] (mCons (mVar 0) mNil)) (mCons (mCall m_law_mask_by [] (mCons (mVar 2) (mCons (mVar 6) (mCons (mBi fLen (mConsT (mVar 4) mNilT)) mNil)))) mNil)))))))))))))
noncomputable def m_law_alone_right : List W → GH → R W := mDef 8 b_law_alone_right
theorem ok_law_alone_right {f : Addr} {fd : FuncData} {dvs : List V} (F : FunD K "_law_alone_right" "_law_alone_right" (defArgs s_law_alone_right) (defBody s_law_alone_right) (defScope s_law_alone_right) dvs [] f fd) (T : Tx K mg ca) (C_law_mask_by : Callable P w K mg base ca 2 "_law_mask_by" P_law_mask_by [] m_law_mask_by) (C_law_places : Callable P w K mg base ca 1 "_law_places" P_law_places [] m_law_places) (C_law_power : Callable P w K mg base ca 1 "_law_power" P_law_power [] m_law_power) (C_law_same_mask : Callable P w K mg base ca 2 "_law_same_mask" P_law_same_mask [] m_law_same_mask) (C_law_whole : Callable P w K mg base ca 1 "_law_whole" P_law_whole [] m_law_whole) (C_cells_in_mask : Callable P w K mg base ca 4 "cells_in_mask" P_cells_in_mask [] m_cells_in_mask) (C_full_mask : Callable P w K mg base ca 3 "full_mask" P_full_mask [] m_full_mask) (C_is_mask : Callable P w K mg base ca 2 "is_mask" P_is_mask [] m_is_mask) (C_many_in_mask : Callable P w K mg base ca 4 "many_in_mask" P_many_in_mask [] m_many_in_mask) (C_other_mask : Callable P w K mg base ca 5 "other_mask" P_other_mask [] m_other_mask) : FnOk P w K mg base (L2N.CX P w) 6 f fd P_law_alone_right (spM K ca 1 m_law_alone_right) := by
  refine def_okD (N := N_law_alone_right) F sc_law_alone_right fun cdv A outer s H E hr => ?_
  have hu := hr.units
  have hu5 := hu_five hr
  have tk : L2N.Takes (cxOf (L2N.CX P w) P w K mg base N_law_alone_right "_law_alone_right" (defScope s_law_alone_right) f cdv A outer s H E) (fun c d _ H => E c d H) := L2N.takes_of rfl rfl rfl rfl
  exact (b_cons (s_asg (s_var (i := 0) rfl (.inl rfl)) (g_tup rfl (g_cons (g_name (i := 6) sc_law_alone_right.nd rfl (.inl rfl)) (g_cons (g_name (i := 4) sc_law_alone_right.nd rfl (.inl rfl)) g_nil)) (gl_cons (gl_cons gl_nil)))) (b_cons (s_set (i := 3) sc_law_alone_right.nd rfl (.inr rfl) (s_call C_law_places (hr.mono (by decide)) (by rfl) tk (a_cons (s_var (i := 0) rfl (.inl rfl)) a_nil) (len_dws (len_cons len_nil) rfl))) (b_cons (s_if (PW.pt (w_or (s_testCmp op_isNotA says_isNot (s_call C_is_mask (hr.mono (by decide)) (by rfl) tk (a_cons (s_var (i := 0) rfl (.inl rfl)) a_nil) (len_dws (len_cons len_nil) rfl)) s_bl (nomark _)) (w_or (s_tnot (s_truth (s_call C_law_whole (hr.mono (by decide)) (by rfl) tk (a_cons (s_call C_many_in_mask (hr.mono (by decide)) (by rfl) tk (a_cons (s_var (i := 0) rfl (.inl rfl)) a_nil) (len_dws (len_cons len_nil) rfl)) a_nil) (len_dws (len_cons len_nil) rfl)))) (w_or1 (s_testCmp (op_neD hu) says_ne (s_call C_many_in_mask (hr.mono (by decide)) (by rfl) tk (a_cons (s_var (i := 0) rfl (.inl rfl)) a_nil) (len_dws (len_cons len_nil) rfl)) (s_bi call_len says_len (by rfl) T.n_len bt_len (c_cons (s_var (i := 3) rfl (.inr (.inl rfl))) c_nil)) (nomark _)))))) (b_one (s_ret s_bl)) b_nil) (b_cons (s_set (i := 1) sc_law_alone_right.nd rfl (.inl rfl) (s_call C_cells_in_mask (hr.mono (by decide)) (by rfl) tk (a_cons (s_var (i := 0) rfl (.inl rfl)) a_nil) (len_dws (len_cons len_nil) rfl))) (b_cons (s_if (PW.pt (w_or (s_tnot (s_truth (s_bi call_isi says_isi (by rfl) T.n_isinstance bt_isinstance (c_cons (s_var (i := 1) rfl (.inl rfl)) (c_cons (s_ty (by rfl) T.n_list bt_list) c_nil))))) (w_or1 (s_testCmp (op_neD hu) says_ne (s_var (i := 1) rfl (.inl rfl)) (s_var (i := 3) rfl (.inr (.inl rfl))) (nomark _))))) (b_one (s_ret s_bl)) b_nil) (b_cons (s_expr (s_mtF PySem.F.plainAttrs_list PySem.F.slot_list_append PySem.F.type_list_append mt_append says_app ty_list (s_var (i := 1) rfl (.inl rfl)) (a_cons s_non a_nil))) (b_cons (s_set (i := 5) sc_law_alone_right.nd rfl (.inl rfl) (s_call C_full_mask (hr.mono (by decide)) (by rfl) tk (a_cons (s_var (i := 6) rfl (.inl rfl)) (a_cons (s_bi call_len says_len (by rfl) T.n_len bt_len (c_cons (s_var (i := 4) rfl (.inl rfl)) c_nil)) a_nil)) (len_dws (len_cons (len_cons len_nil)) rfl))) (b_cons (s_setLc (i := 2) (own := [("_law_place", 7)]) rfl sc_law_alone_right.nd rfl rfl (sw_true rfl rfl rfl (by decide +kernel)) (i_any (s_call C_law_places (hr.mono (by decide)) (by rfl) tk (a_cons (s_var (i := 5) rfl (.inl rfl)) a_nil) (len_dws (len_cons len_nil) rfl))) (blkOk_by (N := N_law_alone_right) (sc := defScope s_law_alone_right) (by decide +kernel)) (fun _ _ _ _ _ => (pg_name (i := 7) sc_law_alone_right.nd rfl (by first | exact .inl rfl | exact .inr rfl))) tgt_name (own_name (by decide)) (fun _ _ _ _ _ => (ts_one (s_testCmp (op_notInA hu5) says_notIn (s_var (i := 7) rfl (by first | exact .inl rfl | exact .inr (.inl rfl))) (s_var (i := 3) rfl (by first | exact .inr (.inl rfl) | exact .inr (.inr rfl) | exact .inl rfl)) (by rfl)))) (fun _ _ _ _ _ => (s_var (i := 7) rfl (by first | exact .inl rfl | exact .inr (.inl rfl))))) (b_cons (s_if (PW.pt (w_or (s_tnot (s_truth (s_call C_law_same_mask (hr.mono (by decide)) (by rfl) tk (a_cons (s_var (i := 5) rfl (.inl rfl)) (a_cons (s_tup (a_cons (s_var (i := 6) rfl (.inl rfl)) (a_cons (s_bin op_mulA says_mul (s_tup (a_cons (s_bin op_sub says_sub (s_call C_law_power (hr.mono (by decide)) (by rfl) tk (a_cons (s_var (i := 6) rfl (.inl rfl)) a_nil) (len_dws (len_cons len_nil) rfl)) s_int) a_nil)) (s_bi call_len says_len (by rfl) T.n_len bt_len (c_cons (s_var (i := 4) rfl (.inl rfl)) c_nil))) a_nil))) a_nil)) (len_dws (len_cons (len_cons len_nil)) rfl)))) (w_or1 (s_testCmp (op_neD hu) says_ne (s_call C_cells_in_mask (hr.mono (by decide)) (by rfl) tk (a_cons (s_var (i := 0) rfl (.inl rfl)) a_nil) (len_dws (len_cons len_nil) rfl)) (s_var (i := 3) rfl (.inr (.inl rfl))) (nomark _))))) (b_one (s_ret s_bl)) b_nil) (b_one (s_ret (s_call C_law_same_mask (hr.mono (by decide)) (by rfl) tk (a_cons (s_call C_other_mask (hr.mono (by decide)) (by rfl) tk (a_cons (s_var (i := 0) rfl (.inl rfl)) a_nil) (len_dws (len_cons len_nil) rfl)) (a_cons (s_call C_law_mask_by (hr.mono (by decide)) (by rfl) tk (a_cons (s_var (i := 2) rfl (.inl rfl)) (a_cons (s_var (i := 6) rfl (.inl rfl)) (a_cons (s_bi call_len says_len (by rfl) T.n_len bt_len (c_cons (s_var (i := 4) rfl (.inl rfl)) c_nil)) a_nil))) (len_dws (len_cons (len_cons (len_cons len_nil))) rfl)) a_nil)) (len_dws (len_cons (len_cons len_nil)) rfl)))))))))))))
abbrev s_law : Stmt := topS 45
abbrev N_law : List Str := ["_law_script", "_law_bad", "_law_due_here", "_law_far", "_law_high", "_law_more", "_law_number", "_law_odd", "_law_one", "_law_other", "_law_which", "_law_wide"]
abbrev P_law : List Str := ["_law_script"]
theorem sc_law : FnScope N_law P_law (defScope s_law) := ⟨rfl, rfl, rfl, by decide +kernel, rfl, by decide +kernel, by decide +kernel⟩
noncomputable def b_law : MS :=
  (sSeq (sSet 6 (mCall m_law_mixed [] (mCons (mVar 0) (mCons (mC (.int 0)) mNil)))) (sSeq (sAsg (gT (gC (gN 11) (gC (gN 4) gE))) (mCall m_law_size [] (mCons (mVar 6) mNil))) (sSeq (sSet 8 (mCall m_law_mask [] (mCons (mVar 0) (mCons (mC (.int 3)) (mCons (mVar 11) (mCons (mVar 4) mNil)))))) (sSeq (sSet 9 (mCall m_law_mask [] (mCons (mVar 0) (mCons (mC (.int 13)) (mCons (mVar 11) (mCons (mVar 4) mNil)))))) (sSeq (sIf (mOr (mNot (mTru (mCall m_law_alone_right [] (mCons (mVar 8) mNil)))) (mNot (mTru (mCall m_law_alone_right [] (mCons (mVar 9) mNil))))) (sRet (mC (.bl false))) sNext) (sSeq (sFor (miR (mCons (mC (.int 4)) mNil)) (gN 10) (sSeq (sSet 2 (mCall m_law_mask_by [] (mCons (mCall m_law_due [] (mCons (mVar 10) (mCons (mCall m_law_places [] (mCons (mVar 8) mNil)) (mCons (mCall m_law_places [] (mCons (mVar 9) mNil)) mNil)))) (mCons (mVar 11) (mCons (mVar 4) mNil))))) (sIf (mNot (mTru (mCall m_law_same_mask [] (mCons (mCall m_law_asked [] (mCons (mVar 10) (mCons (mVar 8) (mCons (mVar 9) mNil)))) (mCons (mVar 2) mNil))))) (sRet (mC (.bl false))) sNext))) (sSeq (sSet 5 (mCall m_law_mixed [] (mCons (mVar 0) (mCons (mC (.int 1)) mNil)))) (sSeq (sSet 1 (mCall m_law_wrong_mask [] (mCons (mVar 5) (mCons (mVar 8) mNil)))) (sSeq (sSet 3 (mBin fIx (mLst (mCons (mCall m_law_mask [] (mCons (mVar 0) (mCons (mC (.int 13)) (mCons (mBin fAdd (mBin fMod (mVar 11) (mC (.int 24))) (mC (.int 1))) (mCons (mVar 4) mNil))))) (mCons (mCall m_law_mask [] (mCons (mVar 0) (mCons (mC (.int 13)) (mCons (mVar 11) (mCons (mBin fAdd (mBin fMod (mVar 4) (mC (.int 24))) (mC (.int 1))) mNil))))) mNil))) (mBin fMod (mBin fFdiv (mVar 5) (mC (.int 40))) (mC (.int 2))))) (sSeq (sIf (mB (mBin fIsNot (mCall m_is_mask [] (mCons (mVar 1) mNil)) (mC (.bl false)))) (sRet (mC (.bl false))) sNext) (sSeq (sFor (miR (mCons (mC (.int 7)) mNil)) (gN 10) (sIf (mB (mBin fNe (mCall m_law_word [] (mCons (mVar 10) (mCons (mVar 1) (mCons (mVar 3) mNil)))) (mC (.str "value mask")))) (sRet (mC (.bl false))) sNext)) (sSeq (sFor (miR (mCons (mC (.int 4)) mNil)) (gN 10) (sSeq (sIf (mOr (mB (mBin fNe (mCall m_law_word [] (mCons (mVar 10) (mCons (mVar 8) (mCons (mVar 1) mNil)))) (mC (.str "value mask")))) (mB (mBin fNe (mCall m_law_word [] (mCons (mVar 10) (mCons (mVar 8) (mCons (mVar 3) mNil)))) (mC (.str "value size"))))) (sRet (mC (.bl false))) sNext) (sIf (mB (mBin fNe (mCall m_law_word [] (mCons (mVar 10) (mCons (mVar 3) (mCons (mVar 8) mNil)))) (mC (.str "value size")))) (sRet (mC (.bl false))) sNext))) (sSeq (sSet 7 (mBin fIx (mLst (mCons (mC (.int 0)) (mCons (mC (.int 25)) (mCons (mUn fNeg (mC (.int 1))) (mCons (mC (.bl true)) (mCons (mC .non) (mCons (mC (.str "3")) (mCons (mLst (mCons (mC (.int 3)) mNil)) (mCons (mBin fPow (mC (.int 10)) (mC (.int 20))) mNil))))))))) (mBin fMod (mBin fFdiv (mVar 5) (mC (.int 100))) (mC (.int 8))))) (sRet (mAndV (mBin fEq (mCall m_law_full_word [] (mCons (mVar 7) (mCons (mVar 4) mNil))) (mC (.str "value size"))) (mBin fEq (mCall m_law_full_word [] (mCons (mVar 11) (mCons (mVar 7) mNil))) (mC (.str "value size"))))))))))))))))))
noncomputable def m_law : List W → GH → R W := mDef 12 b_law
theorem ok_law {f : Addr} {fd : FuncData} {dvs : List V} (F : FunD K "law" "law" (defArgs s_law) (defBody s_law) (defScope s_law) dvs [] f fd) (T : Tx K mg ca) (C_law_alone_right : Callable P w K mg base ca 6 "_law_alone_right" P_law_alone_right [] m_law_alone_right) (C_law_asked : Callable P w K mg base ca 6 "_law_asked" P_law_asked [] m_law_asked) (C_law_due : Callable P w K mg base ca 1 "_law_due" P_law_due [] m_law_due) (C_law_full_word : Callable P w K mg base ca 4 "_law_full_word" P_law_full_word [] m_law_full_word) (C_law_mask : Callable P w K mg base ca 3 "_law_mask" P_law_mask [] m_law_mask) (C_law_mask_by : Callable P w K mg base ca 2 "_law_mask_by" P_law_mask_by [] m_law_mask_by) (C_law_mixed : Callable P w K mg base ca 2 "_law_mixed" P_law_mixed [] m_law_mixed) (C_law_places : Callable P w K mg base ca 1 "_law_places" P_law_places [] m_law_places) (C_law_same_mask : Callable P w K mg base ca 2 "_law_same_mask" P_law_same_mask [] m_law_same_mask) (C_law_size : Callable P w K mg base ca 1 "_law_size" P_law_size [] m_law_size) (C_law_word : Callable P w K mg base ca 7 "_law_word" P_law_word [] m_law_word) (C_law_wrong_mask : Callable P w K mg base ca 2 "_law_wrong_mask" P_law_wrong_mask [] m_law_wrong_mask) (C_is_mask : Callable P w K mg base ca 2 "is_mask" P_is_mask [] m_is_mask) : FnOk P w K mg base (L2N.CX P w) 8 f fd P_law (spM K ca 1 m_law) := by
  refine def_okD (N := N_law) F sc_law fun cdv A outer s H E hr => ?_
  have hu := hr.units
  have hu5 := hu_five hr
  have tk : L2N.Takes (cxOf (L2N.CX P w) P w K mg base N_law "law" (defScope s_law) f cdv A outer s H E) (fun c d _ H => E c d H) := L2N.takes_of rfl rfl rfl rfl
  exact (b_cons (s_set (i := 6) sc_law.nd rfl (.inl rfl) (s_call C_law_mixed (hr.mono (by decide)) (by rfl) tk (a_cons (s_var (i := 0) rfl (.inl rfl)) (a_cons s_int a_nil)) (len_dws (len_cons (len_cons len_nil)) rfl))) (b_cons (s_asg (s_call C_law_size (hr.mono (by decide)) (by rfl) tk (a_cons (s_var (i := 6) rfl (.inl rfl)) a_nil) (len_dws (len_cons len_nil) rfl)) (g_tup rfl (g_cons (g_name (i := 11) sc_law.nd rfl (.inl rfl)) (g_cons (g_name (i := 4) sc_law.nd rfl (.inl rfl)) g_nil)) (gl_cons (gl_cons gl_nil)))) (b_cons (s_set (i := 8) sc_law.nd rfl (.inl rfl) (s_call C_law_mask (hr.mono (by decide)) (by rfl) tk (a_cons (s_var (i := 0) rfl (.inl rfl)) (a_cons s_int (a_cons (s_var (i := 11) rfl (.inl rfl)) (a_cons (s_var (i := 4) rfl (.inl rfl)) a_nil)))) (len_dws (len_cons (len_cons (len_cons (len_cons len_nil)))) rfl))) (b_cons (s_set (i := 9) sc_law.nd rfl (.inl rfl) (s_call C_law_mask (hr.mono (by decide)) (by rfl) tk (a_cons (s_var (i := 0) rfl (.inl rfl)) (a_cons s_int (a_cons (s_var (i := 11) rfl (.inl rfl)) (a_cons (s_var (i := 4) rfl (.inl rfl)) a_nil)))) (len_dws (len_cons (len_cons (len_cons (len_cons len_nil)))) rfl))) (b_cons (s_if (PW.pt (w_or (s_tnot (s_truth (s_call C_law_alone_right (hr.mono (by decide)) (by rfl) tk (a_cons (s_var (i := 8) rfl (.inl rfl)) a_nil) (len_dws (len_cons len_nil) rfl)))) (w_or1 (s_tnot (s_truth (s_call C_law_alone_right (hr.mono (by decide)) (by rfl) tk (a_cons (s_var (i := 9) rfl (.inl rfl)) a_nil) (len_dws (len_cons len_nil) rfl))))))) (b_one (s_ret s_bl)) b_nil) (b_cons (s_for (passes_of rfl) rfl (i_range1 (by rfl) T.n_range (a_cons s_int a_nil)) (g_name (i := 10) sc_law.nd rfl (.inl rfl)) (b_cons (s_set (i := 2) sc_law.nd rfl (.inl rfl) (s_call C_law_mask_by (hr.mono (by decide)) (by rfl) tk (a_cons (s_call C_law_due (hr.mono (by decide)) (by rfl) tk (a_cons (s_var (i := 10) rfl (.inl rfl)) (a_cons (s_call C_law_places (hr.mono (by decide)) (by rfl) tk (a_cons (s_var (i := 8) rfl (.inl rfl)) a_nil) (len_dws (len_cons len_nil) rfl)) (a_cons (s_call C_law_places (hr.mono (by decide)) (by rfl) tk (a_cons (s_var (i := 9) rfl (.inl rfl)) a_nil) (len_dws (len_cons len_nil) rfl)) a_nil))) (len_dws (len_cons (len_cons (len_cons len_nil))) rfl)) (a_cons (s_var (i := 11) rfl (.inl rfl)) (a_cons (s_var (i := 4) rfl (.inl rfl)) a_nil))) (len_dws (len_cons (len_cons (len_cons len_nil))) rfl))) (b_one (s_if (s_tnot (s_truth (s_call C_law_same_mask (hr.mono (by decide)) (by rfl) tk (a_cons (s_call C_law_asked (hr.mono (by decide)) (by rfl) tk (a_cons (s_var (i := 10) rfl (.inl rfl)) (a_cons (s_var (i := 8) rfl (.inl rfl)) (a_cons (s_var (i := 9) rfl (.inl rfl)) a_nil))) (len_dws (len_cons (len_cons (len_cons len_nil))) rfl)) (a_cons (s_var (i := 2) rfl (.inl rfl)) a_nil)) (len_dws (len_cons (len_cons len_nil)) rfl)))) (b_one (s_ret s_bl)) b_nil)))) (b_cons (s_set (i := 5) sc_law.nd rfl (.inl rfl) (s_call C_law_mixed (hr.mono (by decide)) (by rfl) tk (a_cons (s_var (i := 0) rfl (.inl rfl)) (a_cons s_int a_nil)) (len_dws (len_cons (len_cons len_nil)) rfl))) (b_cons (s_set (i := 1) sc_law.nd rfl (.inl rfl) (s_call C_law_wrong_mask (hr.mono (by decide)) (by rfl) tk (a_cons (s_var (i := 5) rfl (.inl rfl)) (a_cons (s_var (i := 8) rfl (.inl rfl)) a_nil)) (len_dws (len_cons (len_cons len_nil)) rfl))) (b_cons (s_set (i := 3) sc_law.nd rfl (.inl rfl) (s_ix (s_lst (a_cons (s_call C_law_mask (hr.mono (by decide)) (by rfl) tk (a_cons (s_var (i := 0) rfl (.inl rfl)) (a_cons s_int (a_cons (s_bin op_addA says_add (s_bin op_mod says_mod (s_var (i := 11) rfl (.inl rfl)) s_int) s_int) (a_cons (s_var (i := 4) rfl (.inl rfl)) a_nil)))) (len_dws (len_cons (len_cons (len_cons (len_cons len_nil)))) rfl)) (a_cons (s_call C_law_mask (hr.mono (by decide)) (by rfl) tk (a_cons (s_var (i := 0) rfl (.inl rfl)) (a_cons s_int (a_cons (s_var (i := 11) rfl (.inl rfl)) (a_cons (s_bin op_addA says_add (s_bin op_mod says_mod (s_var (i := 4) rfl (.inl rfl)) s_int) s_int) a_nil)))) (len_dws (len_cons (len_cons (len_cons (len_cons len_nil)))) rfl)) a_nil))) (s_bin op_mod says_mod (s_bin op_fdivW says_fdiv (s_var (i := 5) rfl (.inl rfl)) s_int) s_int))) (b_cons (s_if (s_testCmp op_isNotA says_isNot (s_call C_is_mask (hr.mono (by decide)) (by rfl) tk (a_cons (s_var (i := 1) rfl (.inl rfl)) a_nil) (len_dws (len_cons len_nil) rfl)) s_bl (nomark _)) (b_one (s_ret s_bl)) b_nil) (b_cons (s_for (passes_of rfl) rfl (i_range1 (by rfl) T.n_range (a_cons s_int a_nil)) (g_name (i := 10) sc_law.nd rfl (.inl rfl)) (b_one (s_if (s_testCmp (op_neD hu) says_ne (s_call C_law_word (hr.mono (by decide)) (by rfl) tk (a_cons (s_var (i := 10) rfl (.inl rfl)) (a_cons (s_var (i := 1) rfl (.inl rfl)) (a_cons (s_var (i := 3) rfl (.inl rfl)) a_nil))) (len_dws (len_cons (len_cons (len_cons len_nil))) rfl)) s_str (nomark _)) (b_one (s_ret s_bl)) b_nil))) (b_cons (s_for (passes_of rfl) rfl (i_range1 (by rfl) T.n_range (a_cons s_int a_nil)) (g_name (i := 10) sc_law.nd rfl (.inl rfl)) (b_cons (s_if (PW.pt (w_or (s_testCmp (op_neD hu) says_ne (s_call C_law_word (hr.mono (by decide)) (by rfl) tk (a_cons (s_var (i := 10) rfl (.inl rfl)) (a_cons (s_var (i := 8) rfl (.inl rfl)) (a_cons (s_var (i := 1) rfl (.inl rfl)) a_nil))) (len_dws (len_cons (len_cons (len_cons len_nil))) rfl)) s_str (nomark _)) (w_or1 (s_testCmp (op_neD hu) says_ne (s_call C_law_word (hr.mono (by decide)) (by rfl) tk (a_cons (s_var (i := 10) rfl (.inl rfl)) (a_cons (s_var (i := 8) rfl (.inl rfl)) (a_cons (s_var (i := 3) rfl (.inl rfl)) a_nil))) (len_dws (len_cons (len_cons (len_cons len_nil))) rfl)) s_str (nomark _))))) (b_one (s_ret s_bl)) b_nil) (b_one (s_if (s_testCmp (op_neD hu) says_ne (s_call C_law_word (hr.mono (by decide)) (by rfl) tk (a_cons (s_var (i := 10) rfl (.inl rfl)) (a_cons (s_var (i := 3) rfl (.inl rfl)) (a_cons (s_var (i := 8) rfl (.inl rfl)) a_nil))) (len_dws (len_cons (len_cons (len_cons len_nil))) rfl)) s_str (nomark _)) (b_one (s_ret s_bl)) b_nil)))) (b_cons (s_set (i := 7) sc_law.nd rfl (.inl rfl) (s_ix (s_lst (a_cons s_int (a_cons s_int (a_cons (s_neg s_int) (a_cons s_bl (a_cons s_non (a_cons s_str (a_cons (s_lst (a_cons s_int a_nil)) (a_cons (s_bin op_pow says_pow s_int s_int) a_nil))))))))) (s_bin op_mod says_mod (s_bin op_fdivW says_fdiv (s_var (i := 5) rfl (.inl rfl)) s_int) s_int))) (b_one (s_ret (v_and (s_cmp (op_eqD hu) says_eq (s_call C_law_full_word (hr.mono (by decide)) (by rfl) tk (a_cons (s_var (i := 7) rfl (.inl rfl)) (a_cons (s_var (i := 4) rfl (.inl rfl)) a_nil)) (len_dws (len_cons (len_cons len_nil)) rfl)) s_str (nomark _)) (v_one (s_cmp (op_eqD hu) says_eq (s_call C_law_full_word (hr.mono (by decide)) (by rfl) tk (a_cons (s_var (i := 11) rfl (.inl rfl)) (a_cons (s_var (i := 7) rfl (.inl rfl)) a_nil)) (len_dws (len_cons (len_cons len_nil)) rfl)) s_str (nomark _)))))))))))))))))))
end
end Lk06
set_option Elab.async false
set_option linter.all false
set_option maxRecDepth 100000
set_option maxHeartbeats 4000000
namespace Lk06
open PySem PySem.Spec PyProof.Rows L2 Sy
theorem bits_pow (p : Nat) : Builtin.Int.intBits ((2 ^ p : Nat) : Int) ≤ p + 1 := by
  rw [PySem.intBits_le_iff]
  simp [Nat.pow_succ]
  have : 0 < 2 ^ p := Nat.pow_pos (by decide)
  omega
theorem power_eq (p : Nat) (hp : p ≤ 200) (G : GH) : m_law_power [.int p] G = .ok (.int ((2 ^ p : Nat) : Int)) G := by
  refine mDef_ok [some (.int p), none, none] ?_
  unfold b_law_power
  have hr : in62 (p : Int) = true := in62_of (by omega) (by omega)
  have h : ∃ s1, forL [] (gN 2) (sSet 1 (mBin fMul (mC (.int 2)) (mVar 1))) (rangeW 0 p) [some (.int p), some (.int 1), none] G = .nx [some (.int p), some (.int ((2 ^ p : Nat) : Int)), s1] G := by
    refine forL_run (fun i τ G' => G' = G ∧ ∃ s1, τ = [some (.int p), some (.int ((2 ^ i : Nat) : Int)), s1]) (fun r => ∃ s1, r = .nx [some (.int p), some (.int ((2 ^ p : Nat) : Int)), s1] G) ⟨rfl, none, rfl⟩ ?_ ?_
    · rintro i w τ G' hw ⟨rfl, s1, rfl⟩
      obtain ⟨hi, rfl⟩ := rangeW_get hw
      refine ⟨still_nil, _, rfl, ?_⟩
      have hm : mulOk 2 ((2 ^ i : Nat) : Int) = true := mulOk_of (a := 2) (b := 201) (by decide) (Nat.le_trans (bits_pow i) (by omega)) (by decide)
      have e : (2 : Int) * ((2 ^ i : Nat) : Int) = ((2 ^ (i + 1) : Nat) : Int) := by rw [Nat.pow_succ]; omega
      generalize ((2 ^ i : Nat) : Int) = q at *
      simp [fMul_int, hm, e]
    · rintro τ G' ⟨rfl, s1, rfl⟩
      rw [rangeW_len]
      exact ⟨still_nil, s1, rfl⟩
  obtain ⟨s1, h⟩ := h
  generalize ((2 ^ p : Nat) : Int) = q at *
  simp [sFor_at, miR_at, iterR_ok hr, h]
def cellZ (ns : List Int) (k : Nat) : Int := ns.getD k 0
abbrev scr (ns : List Int) : W := .frl (ns.map W.int)
@[simp] theorem fLen_frl (ws : List W) (G : GH) : fLen [.val (.frl ws)] G = .ok (.val (.int ws.length)) G := (rfl)
theorem fIx_frl {ws : List W} {k : Nat} {w : W} {G : GH} (h : ws[k]? = some w) : fIx (.val (.frl ws)) (.val (.int k)) G = .ok (.val w) G := by
  unfold fIx
  simp [atI_nat h]
theorem cell_eq (ns : List Int) (k : Nat) (G : GH) : m_law_cell [scr ns, .int k] G = .ok (.int (cellZ ns k)) G := by
  refine mDef_ok [some (scr ns), some (.int k)] ?_
  unfold b_law_cell cellZ
  by_cases h : k < ns.length
  · have e : (ns.map W.int)[k]? = some (.int ns[k]) := by simp [h]
    simp [h, fIx_frl e]
  · simp [h]
theorem bits_k (k : Nat) (hk : k ≤ 1000) : Builtin.Int.intBits ((k : Nat) : Int) ≤ 10 := by
  rw [PySem.intBits_le_iff]
  omega
theorem bits_cell {ns : List Int} (hb : ∀ z ∈ ns, Builtin.Int.intBits z ≤ 1048576) (k : Nat) : Builtin.Int.intBits (cellZ ns k) ≤ 1048576 := by
  unfold cellZ
  rw [List.getD_eq_getElem?_getD]
  cases e : ns[k]? with
  | none => exact (by decide : Builtin.Int.intBits 0 ≤ 1048576)
  | some z => exact hb z (List.mem_of_getElem? e)
def mixZ (z : Int) (k : Nat) : Int := (z + 7919 * k + 13) * (z + 7919 * k + 13) % 1000000007 * (z + 7919 * k + 13) % 998244353 / 11
theorem mixed_eq {ns : List Int} (hb : ∀ z ∈ ns, Builtin.Int.intBits z ≤ 1048576) (k : Nat) (hk : k ≤ 1000) (G : GH) : m_law_mixed [scr ns, .int k] G = .ok (.int (mixZ (cellZ ns k) k)) G := by
  refine mDef_ok [some (scr ns), some (.int k), none] ?_
  unfold b_law_mixed mixZ
  have h1 := bits_cell hb k
  generalize hz : cellZ ns k = z at h1
  have b2 : Builtin.Int.intBits (7919 : Int) ≤ 13 := by decide
  have b3 := bits_k k hk
  have b4 := bits_add (bits_add h1 (bits_mul b2 b3)) (show Builtin.Int.intBits (13 : Int) ≤ 4 by decide)
  have m1 : mulOk 7919 (k : Int) = true := mulOk_of b2 b3 (by decide)
  generalize hy : z + 7919 * (k : Int) + 13 = y at b4
  have m2 : mulOk y y = true := mulOk_of b4 b4 (by decide)
  have b5 := bits_emod (bits_mul b4 b4) (show Builtin.Int.intBits (1000000007 : Int) ≤ 30 by decide)
  have m3 : mulOk (y * y % 1000000007) y = true := mulOk_of b5 b4 (by decide)
  simp [cell_eq, hz, fMul_int, fFdiv_int, fMod_int, m1, hy, m2, m3, show Nat.log2 11 < 9000 by decide]
theorem mixZ_nat (z : Int) (k : Nat) : ∃ r : Nat, r < 90749487 ∧ mixZ z k = (r : Int) := by
  unfold mixZ
  generalize (z + 7919 * k + 13) * (z + 7919 * k + 13) % 1000000007 * (z + 7919 * k + 13) = y
  have h0 := Int.emod_nonneg y (show (998244353 : Int) ≠ 0 by decide)
  have h1 := Int.emod_lt_of_pos y (show (0 : Int) < 998244353 by decide)
  refine ⟨(y % 998244353 / 11).toNat, by omega, by omega⟩
theorem mixed_nat {ns : List Int} (hb : ∀ z ∈ ns, Builtin.Int.intBits z ≤ 1048576) (k : Nat) (hk : k ≤ 1000) : ∃ r : Nat, r < 90749487 ∧ ∀ G, m_law_mixed [scr ns, .int k] G = .ok (.int r) G := by
  obtain ⟨r, h1, h2⟩ := mixZ_nat (cellZ ns k) k
  exact ⟨r, h1, fun G => by rw [← h2]; exact mixed_eq hb k hk G⟩
theorem whole_int (i : Int) (G : GH) : m_law_whole [.int i] G = .ok (.bl true) G := by
  refine mDef_ok [some (.int i)] ?_
  rfl
def pw (p : Nat) : Int := ((2 ^ p : Nat) : Int)
theorem pw_pos (p : Nat) : 0 < pw p := by
  unfold pw
  have : 0 < 2 ^ p := Nat.pow_pos (by decide)
  omega
theorem pw_mono {p q : Nat} (h : p ≤ q) : pw p ≤ pw q := by
  unfold pw
  have : 2 ^ p ≤ 2 ^ q := Nat.pow_le_pow_right (by decide) h
  omega
theorem pw_bits (p : Nat) : Builtin.Int.intBits (pw p) ≤ p + 1 := bits_pow p
theorem power_pw (p : Nat) (hp : p ≤ 200) (G : GH) : m_law_power [.int p] G = .ok (.int (pw p)) G := power_eq p hp G
theorem bits_lt {r : Nat} {m : Nat} (h : r < 2 ^ m) : Builtin.Int.intBits (r : Int) ≤ m := by
  rw [PySem.intBits_le_iff]
  simpa using h
end Lk06
set_option Elab.async false
set_option linter.all false
set_option maxRecDepth 100000
set_option maxHeartbeats 4000000
namespace Lk06
open PySem PySem.Spec PyProof.Rows L2 Sy
theorem bits_small {z : Int} {m : Nat} (h0 : 0 ≤ z) (h : z < 2 ^ m) : Builtin.Int.intBits z ≤ m := by
  rw [PySem.intBits_le_iff]
  obtain ⟨n, rfl⟩ := Int.eq_ofNat_of_zero_le h0
  have : ((n : Nat) : Int) < ((2 ^ m : Nat) : Int) := by simpa using h
  simpa using Int.ofNat_lt.mp this
theorem nat_of {z : Int} (h : 0 ≤ z) : ∃ n : Nat, z = n := Int.eq_ofNat_of_zero_le h
theorem in62_small {z : Int} (h0 : 0 ≤ z) (h : z ≤ 1000000) : in62 z = true := in62_of (by omega) (by omega)
theorem iterR_nat (n : Nat) (h : n ≤ 1000000) (G : GH) : iterR [.int n] G = .ok (rangeW 0 n, []) G := by
  rw [iterR_ok (in62_small (by omega) (by omega))]; rfl
theorem mem_range {n : Nat} {w : W} (h : w ∈ rangeW 0 n) : ∃ i : Nat, i < n ∧ w = .int i := by
  obtain ⟨i, hi⟩ := List.getElem?_of_mem h
  obtain ⟨h1, h2⟩ := rangeW_get hi
  exact ⟨i, h1, by rw [h2, Int.zero_add]⟩
theorem rangeW_map {n : Nat} {β : Type} (f : W → β) (g : Nat → β) (h : ∀ i : Nat, f (.int i) = g i) : (rangeW 0 n).map f = (List.range n).map g := by
  unfold rangeW
  rw [List.map_map]
  apply List.map_congr_left
  intro i _
  show f (.int (0 + (i : Int))) = g i
  rw [Int.zero_add, h]
theorem log2_small {z : Int} (h0 : 0 < z) (h : z ≤ 1000000000) : z.natAbs.log2 < 9000 := by
  obtain ⟨n, rfl⟩ := Int.eq_ofNat_of_zero_le (Int.le_of_lt h0)
  have hn : n < 2 ^ 31 := by omega
  have h1 : n ≠ 0 := by omega
  have := (Nat.log2_lt h1).mpr hn
  show n.log2 < 9000
  omega
theorem mod_nat (z : Int) {m : Nat} (h : 0 < m) : ∃ n : Nat, z % m = n ∧ n < m := by
  have h1 := Int.emod_nonneg z (show (m : Int) ≠ 0 by omega)
  have h2 := Int.emod_lt_of_pos z (show (0 : Int) < m by omega)
  obtain ⟨n, hn⟩ := nat_of h1
  exact ⟨n, hn, by omega⟩
theorem all_true {α : Type} {p : α → Bool} {l : List α} (h : ∀ x ∈ l, p x = true) : l.all p = true := List.all_eq_true.mpr h
theorem fIx_loc {G : GH} {n : Nat} {ws : List W} {k : Nat} {w : W} (h : G[n]? = some (.lst ws)) (hk : ws[k]? = some w) : fIx (.val (.loc n)) (.val (.int k)) G = .ok (.val w) G := by
  unfold fIx
  simp [h, atI_nat hk]
theorem fIx_tup {G : GH} {ws : List W} {k : Nat} {w : W} (hk : ws[k]? = some w) : fIx (.val (.tup ws)) (.val (.int k)) G = .ok (.val w) G := by
  unfold fIx
  simp [atI_nat hk]
@[simp] theorem fIx_tup0 {G : GH} {ws : List W} {w : W} : fIx (.val (.tup (w :: ws))) (.val (.int 0)) G = .ok (.val w) G := fIx_tup (k := 0) rfl
@[simp] theorem fIx_tup1 {G : GH} {ws : List W} {u w : W} : fIx (.val (.tup (u :: w :: ws))) (.val (.int 1)) G = .ok (.val w) G := fIx_tup (k := 1) rfl
theorem iterA_at {G : GH} {n : Nat} {ws : List W} (h : G[n]? = some (.lst ws)) : iterA (.val (.loc n)) G = .ok (ws, [(n, ws)]) G := iterA_loc (by simp [h])
@[simp] theorem fLen_tup (ws : List W) (G : GH) : fLen [.val (.tup ws)] G = .ok (.val (.int ws.length)) G := (rfl)
theorem appOk {n : Nat} {us : List W} {w : W} {G : GH} (h : G[n]? = some (.lst us)) (hl : us.length ≤ 1000000) : fApp (.val (.loc n)) [w] G = .ok (.val .non) (G.set n (.lst (us ++ [w]))) := fApp_ok h (by omega)
theorem fTuple_loc {G : GH} {n : Nat} {ws : List W} (h : G[n]? = some (.lst ws)) : fTuple [.val (.loc n)] G = .ok (.val (.tup ws)) G := by
  unfold fTuple
  simp [h]
/-! among, cells -/
def amongW (lo hi : Int) : W → Bool
  | .int i => decide (lo ≤ i) && decide (i ≤ hi)
  | _ => false
abbrev okW (G : GH) (w : W) : Prop := (tyOf G (.val w)).isSome = true
theorem among_eq {G : GH} {w : W} (h : okW G w) (lo hi : Int) : m_is_among [w, .int lo, .int hi] G = .ok (.bl (amongW lo hi w)) G := by
  refine mDef_ok [some w, some (.int lo), some (.int hi)] ?_
  unfold b_is_among
  cases w with
  | int i =>
    simp [amongW]
    by_cases h1 : lo ≤ i
    · simp [h1]
    · simp [h1]
  | bl b => simp [amongW]
  | non => simp [amongW]
  | str x => simp [amongW]
  | tup ws => simp [amongW]
  | loc n =>
    have e : ∃ a, tyOf G (.val (.loc n)) = some a ∧ subTy a "int" = some false := by
      unfold okW tyOf at h
      unfold tyOf
      dsimp only at h ⊢
      cases e : G[n]? with
      | none => rw [e] at h; cases h
      | some o =>
        rw [e] at h
        cases o with
        | lst ws => exact ⟨_, rfl, by decide⟩
        | dK ws => exact ⟨_, rfl, by decide⟩
        | dT ws => exact ⟨_, rfl, by decide⟩
        | ins c fs => cases h
    obtain ⟨a, e1, e2⟩ := e
    have := isi_of e1 e2
    simp [amongW, this]
  | frl ws =>
    have := isi_of (G := G) (t := .val (.frl ws)) (a := "list") (b := "int") (r := false) rfl (by decide)
    simp [amongW, this]
  | ty n => cases h
  | cls n => cases h
  | exn n a => cases h
theorem okW_int (G : GH) (i : Int) : okW G (.int i) := rfl
open N7
/-! masks -/
abbrev nW (rows : List Nat) : List W := rows.map fun (r : Nat) => W.int r
abbrev mk (wide : Nat) (rows : List Nat) : W := .tup [.int wide, .tup (nW rows)]
structure GoodM (wide : Nat) (rows : List Nat) : Prop where
  w0 : 0 < wide
  w1 : wide ≤ 24
  h0 : 0 < rows.length
  h1 : rows.length ≤ 24
  row : ∀ r ∈ rows, r < 2 ^ wide
theorem pow_le24 {w : Nat} (h : w ≤ 24) : 2 ^ w ≤ 16777216 := Nat.le_trans (Nat.pow_le_pow_right (by decide) h) (by decide)
theorem shl_one (w : Nat) (h : w ≤ 1000) (G : GH) : fShl (.val (.int 1)) (.val (.int w)) G = .ok (.val (.int (pw w))) G := by
  rw [fShl_int (by omega) ?_]
  · unfold pw
    simp
  · have : Builtin.Int.intBits (1 : Int) ≤ 1 := by decide
    rw [show (2 : Int) ^ 27 = 134217728 from rfl]
    omega
theorem is_mask_good {wide : Nat} {rows : List Nat} (g : GoodM wide rows) (G : GH) : m_is_mask [mk wide rows] G = .ok (.bl true) G := by
  refine mDef_ok [some (mk wide rows), none] ?_
  unfold b_is_mask
  have hw0 := g.w0
  have hw1 := g.w1
  have hh0 := g.h0
  have hh1 := g.h1
  have e1 := among_eq (okW_int G wide) 1 24
  rw [show amongW 1 24 (.int wide) = true by simp [amongW]; omega] at e1
  rw [seq_no (G1 := G) (by simp [mk, e1])]
  have i1 : (1 : Int) ≤ rows.length := by omega
  have i2 : (rows.length : Int) ≤ 24 := by omega
  rw [seq_no (G1 := G) (by simp [mk, i1, i2])]
  have hs := shl_one wide (by omega)
  have hc : compF [] (gN 1) mYes (mCall m_is_among [] (mCons (mVar 1) (mCons (mC (.int 0)) (mCons (mBin fSub (mBin fShl (mC (.int 1)) (mBin fIx (mVar 0) (mC (.int 0)))) (mC (.int 1))) mNil)))) [some (mk wide rows), none] (nW rows) G = .ok ((nW rows).map fun _ => W.bl true) G := by
    refine compF_map (fun _ => .bl true) still_nil fun w hw => ⟨_, rfl, rfl, ?_⟩
    obtain ⟨r, hr, rfl⟩ := List.mem_map.mp hw
    have hlt := g.row r hr
    have e2 := among_eq (okW_int G r) 0 (pw wide - 1)
    rw [show amongW 0 (pw wide - 1) (.int r) = true by
      unfold pw
      simp only [amongW, Bool.and_eq_true, decide_eq_true_eq]
      omega] at e2
    simp [mk, hs, e2]
  have hall := fAll_yes (nW rows) G
  have hl : (nW rows).length ≤ 16777216 := by rw [List.length_map]; omega
  generalize (nW rows).map (fun _ => W.bl true) = L at *
  unfold mk at hc ⊢
  generalize nW rows = ws at *
  simp [mComp_at, miA_at, wipeS, hl, hc, hall]
/-- a walk over the list of masks that finds nothing wrong -/
theorem need_masks_good {G : GH} {n : Nat} {wide : Nat} {rows0 : List Nat} {ms : List (List Nat)} (h : G[n]? = some (.lst (ms.map (mk wide)))) (h0 : ms[0]? = some rows0) (hg : ∀ rows ∈ ms, GoodM wide rows ∧ rows.length = rows0.length) : m_need_masks [.loc n] G = .ok .non G := by
  have hit := iterA_at h
  obtain ⟨s, hw1⟩ : ∃ s, sFor (miA (mVar 0)) (gN 1) (sIf (mNot (mTru (mCall m_is_mask [] (mCons (mVar 1) mNil)))) (sRaise 5) sNext) [some (.loc n), none] G = .nx [some (.loc n), s] G := by
    have hmi : miA (mVar 0) [some (.loc n), none] G = .ok (ms.map (mk wide), [(n, ms.map (mk wide))]) G := by
      generalize ms.map (mk wide) = ws at *
      simp [miA_at, hit]
    rw [sFor_at, hmi, R.toS_ok]
    refine forL_run (I := fun _ τ G' => G' = G ∧ ∃ s, τ = [some (.loc n), s]) (E := fun r => ∃ s, r = .nx [some (.loc n), s] G) (τ := [some (.loc n), none]) (G := G) ⟨rfl, _, rfl⟩ ?_ ?_
    · rintro i w τ G' hw ⟨rfl, s, rfl⟩
      obtain ⟨rows, hr, rfl⟩ := List.mem_map.mp (List.mem_of_getElem? hw)
      refine ⟨still_of h, _, rfl, ?_⟩
      have e := is_mask_good (hg rows hr).1 G'
      show Turn _ _ (sIf _ _ _ [some (.loc n), some (mk wide rows)] G')
      rw [if_no (G1 := G') (by
        generalize mk wide rows = m at *
        simp [e])]
      exact ⟨rfl, _, rfl⟩
    · rintro τ G' ⟨rfl, s, rfl⟩
      exact ⟨still_of h, s, rfl⟩
  have hix : fIx (.val (.loc n)) (.val (.int 0)) G = .ok (.val (mk wide rows0)) G := fIx_loc (k := 0) h (by rw [List.getElem?_map, h0]; rfl)
  obtain ⟨s2, hw2⟩ : ∃ s2, sFor (miA (mVar 0)) (gN 1) (sIf (mOr (mB (mBin fNe (mBin fIx (mVar 1) (mC (.int 0))) (mBin fIx (mBin fIx (mVar 0) (mC (.int 0))) (mC (.int 0))))) (mB (mBin fNe (mBi fLen (mConsT (mBin fIx (mVar 1) (mC (.int 1))) mNilT)) (mBi fLen (mConsT (mBin fIx (mBin fIx (mVar 0) (mC (.int 0))) (mC (.int 1))) mNilT))))) (sRaise 3) sNext) [some (.loc n), s] G = .nx [some (.loc n), s2] G := by
    have hmi : miA (mVar 0) [some (.loc n), s] G = .ok (ms.map (mk wide), [(n, ms.map (mk wide))]) G := by
      generalize ms.map (mk wide) = ws at *
      simp [miA_at, hit]
    rw [sFor_at, hmi, R.toS_ok]
    refine forL_run (I := fun _ τ G' => G' = G ∧ ∃ s, τ = [some (.loc n), s]) (E := fun r => ∃ s, r = .nx [some (.loc n), s] G) (τ := [some (.loc n), s]) (G := G) ⟨rfl, _, rfl⟩ ?_ ?_
    · rintro i w τ G' hw ⟨rfl, s, rfl⟩
      obtain ⟨rows, hr, rfl⟩ := List.mem_map.mp (List.mem_of_getElem? hw)
      refine ⟨still_of h, _, rfl, ?_⟩
      have hl := (hg rows hr).2
      show Turn _ _ (sIf _ _ _ [some (.loc n), some (mk wide rows)] G')
      rw [if_no (G1 := G') (by
        simp [hix, mk, hl])]
      exact ⟨rfl, _, rfl⟩
    · rintro τ G' ⟨rfl, s, rfl⟩
      exact ⟨still_of h, s, rfl⟩
  refine mDef_nx [some (.loc n), none] (τ1 := [some (.loc n), s2]) ?_
  unfold b_need_masks
  rw [seq_nx hw1]
  exact hw2
/-- the first one is none -/
theorem need_masks_bad {G : GH} {n : Nat} {w : W} {ws : List W} (h : G[n]? = some (.lst (w :: ws))) (hb : m_is_mask [w] G = .ok (.bl false) G) : m_need_masks [.loc n] G = .ex 5 [] G := by
  have hit := iterA_at h
  refine mDef_ex [some (.loc n), none] (τ1 := [some (.loc n), some w]) ?_
  unfold b_need_masks
  refine seq_ex ?_
  have hmi : miA (mVar 0) [some (.loc n), none] G = .ok (w :: ws, [(n, w :: ws)]) G := by
    simp [miA_at, hit]
  rw [sFor_at, hmi, R.toS_ok]
  have hst : still [(n, w :: ws)] G = true := still_of h
  show forL [(n, w :: ws)] _ _ (w :: ws) _ _ = _
  unfold forL
  rw [hst, if_pos rfl]
  have e : (sIf (mNot (mTru (mCall m_is_mask [] (mCons (mVar 1) mNil)))) (sRaise 5) sNext) [some (.loc n), some w] G = .ex 5 [] [some (.loc n), some w] G := by
    rw [if_yes (G1 := G) (by simp [hb])]
    rfl
  show (match (sIf (mNot (mTru (mCall m_is_mask [] (mCons (mVar 1) mNil)))) (sRaise 5) sNext) [some (.loc n), some w] G with
    | .nx τ2 G2 => _
    | .ct τ2 G2 => _
    | .bk τ2 G2 => _
    | .rt w G2 => _
    | .ex e fs τ2 G2 => _
    | .bad => _) = _
  rw [e]
open N5
theorem shr_nat (n i : Nat) : (n : Int) / 2 ^ (i : Int).toNat = ((n / 2 ^ i : Nat) : Int) := by
  simp
theorem bit_one (n i : Nat) : Builtin.bitAnd ((n : Int) / 2 ^ i) 1 = if n.testBit i then 1 else 0 := by
  have e : (n : Int) / 2 ^ i = ((n / 2 ^ i : Nat) : Int) := by simp
  rw [bitAnd_m1, e, tb]
  by_cases h : n / 2 ^ i % 2 = 1
  · rw [if_pos (by simpa using h)]; omega
  · rw [if_neg (by simpa using h)]; omega
theorem bit_at_eq (n i : Nat) (G : GH) : m_bit_at [.int n, .int i] G = .ok (.bl (n.testBit i)) G := by
  refine mDef_ok [some (.int n), some (.int i)] ?_
  unfold b_bit_at
  simp [fShr_int, bit_one]
def plW (k n : Nat) : List W := (plB k n).map fun (i : Nat) => W.int i
theorem plW_snoc (k n : Nat) : plW (k + 1) n = plW k n ++ if n.testBit k then [.int k] else [] := by
  unfold plW
  rw [plB_snoc, List.map_append]
  cases n.testBit k <;> simp
theorem plW_len (k n : Nat) : (plW k n).length ≤ k := by
  unfold plW
  rw [List.length_map]
  exact plB_len_le k n
theorem plW_eq {n p k : Nat} (h : n < 2 ^ p) (hk : p ≤ k) : plW k n = plW p n := by
  unfold plW
  rw [plB_eq h hk]
theorem many_eq {n : Nat} (hn : n < 2 ^ 101) (G : GH) : m_many_bits [.int n] G = .ok (.int ((plW 101 n).length : Int)) G := by
  refine mDef_ok [some (.int n), none] ?_
  unfold b_many_bits
  rw [sSeq_at, sSet_at]
  simp only [mF_at, mC_at, R.bind_ok, force_val, R.toS_ok, RS.then_nx, List.set_cons_succ, List.set_cons_zero, sSeq_at]
  suffices h : ∃ x, whileF (mB (mBin fGt (mVar 0) (mC (.int 0)))) (sSeq (sSet 0 (mBin fAnd (mVar 0) (mBin fSub (mVar 0) (mC (.int 1))))) (sAug 1 fAugAdd (mC (.int 1)))) 100000 [some (.int n), some (.int 0)] G = .nx [x, some (.int ((plW 101 n).length : Int))] G by
    obtain ⟨x, h⟩ := h
    rw [h]
    simp
  refine whileF_run (fun m τ G' => ∃ r c, r < 2 ^ 101 ∧ (plB 101 r).length = m ∧ m + c = (plW 101 n).length ∧ τ = [some (.int (r : Nat)), some (.int (c : Nat))] ∧ G' = G) (fun r => ∃ x, r = .nx [x, some (.int ((plW 101 n).length : Int))] G) (m := (plB 101 n).length) (n := 100000) (τ := [some (.int n), some (.int 0)]) (G := G)
    ⟨n, 0, hn, rfl, by simp [plW], rfl, rfl⟩ (by have := plB_len_le 101 n; omega) ?_
  rintro m τ G' ⟨r, c, hr, hm, hc, rfl, rfl⟩
  by_cases h0 : r = 0
  · subst h0
    refine ⟨false, G', by simp, ?_⟩
    rw [if_neg Bool.false_ne_true]
    have : (plB 101 0).length = 0 := by decide
    exact ⟨some (.int (0 : Nat)), by rw [show c = (plW 101 n).length by omega]⟩
  · have h1 := plB_pred (k := 101) (Nat.pos_of_ne_zero h0) hr
    have h2 : r &&& (r - 1) < 2 ^ 101 := Nat.and_lt_two_pow _ (by omega)
    have e : Builtin.bitAnd (r : Int) ((r : Int) - 1) = ((r &&& (r - 1) : Nat) : Int) := by
      rw [← band_nat]
      congr 1
      omega
    have hq : (0 : Int) < (r : Int) := by omega
    refine ⟨true, G', by simp [Nat.pos_of_ne_zero h0], ?_⟩
    rw [if_pos rfl]
    simp [e]
    exact ⟨m - 1, by omega, r &&& (r - 1), h2, by omega, c + 1, by omega, rfl, by omega⟩
theorem shr_pos {n p : Nat} : (0 : Int) < (n : Int) / 2 ^ p ↔ n / 2 ^ p ≠ 0 := by
  have e : (n : Int) / 2 ^ p = ((n / 2 ^ p : Nat) : Int) := by simp
  rw [e]
  generalize n / 2 ^ p = q
  omega
theorem bplaces_eq {n : Nat} (hn : n < 2 ^ 101) (G : GH) : m_places_of_bits [.int n] G = .ok (.loc G.length) (G ++ [.lst (plW 101 n)]) := by
  refine mDef_ok [some (.int n), none, none] ?_
  unfold b_places_of_bits
  rw [sSeq_at, sSet_at]
  simp only [mF_at, mLst_at, mNil_at, R.bind_ok, List.length_nil, Nat.zero_le, if_true, force_tmp, R.toS_ok, RS.then_nx, List.set_cons_succ, List.set_cons_zero, sSeq_at, sSet_at, mC_at, force_val]
  suffices h : ∃ p, whileF (mB (mBin fGt (mBin fShr (mVar 0) (mVar 2)) (mC (.int 0)))) (sSeq (sIf (mTru (mCall m_bit_at [] (mCons (mVar 0) (mCons (mVar 2) mNil)))) (sDrop (mMtF isLst fApp (mVar 1) (mCons (mVar 2) mNil))) sNext) (sAug 2 fAugAdd (mC (.int 1)))) 100000 [some (.int n), some (.loc G.length), some (.int 0)] (G ++ [.lst []]) = .nx p (G ++ [.lst (plW 101 n)]) ∧ p[1]? = some (some (.loc G.length)) by
    obtain ⟨p, h, h2⟩ := h
    rw [h]
    simp [h2]
  refine whileF_run (fun m τ G' => ∃ p, m + p = 101 ∧ τ = [some (.int n), some (.loc G.length), some (.int p)] ∧ G' = G ++ [.lst (plW p n)]) (fun r => ∃ p, r = .nx p (G ++ [.lst (plW 101 n)]) ∧ p[1]? = some (some (.loc G.length))) (m := 101) (n := 100000) (τ := [some (.int n), some (.loc G.length), some (.int 0)]) (G := G ++ [.lst []]) ⟨0, rfl, by simp, by simp [plW, plB]⟩ (by decide) ?_
  rintro m τ G' ⟨p, hp, rfl, rfl⟩
  have hl := plW_len p n
  have hs := plW_snoc p n
  have hsp := shr_pos (n := n) (p := p)
  have hb := bit_at_eq n p
  by_cases h0 : n / 2 ^ p = 0
  · have hq : ¬ (0 : Int) < (n : Int) / 2 ^ p := fun h => hsp.mp h h0
    refine ⟨false, G ++ [.lst (plW p n)], by simp [fShr_int]; omega, ?_⟩
    rw [if_neg Bool.false_ne_true]
    have hlt : n < 2 ^ p := by
      rcases Nat.div_eq_zero_iff.mp h0 with h | h
      · have : 0 < 2 ^ p := Nat.pow_pos (by decide)
        omega
      · exact h
    exact ⟨_, by rw [plW_eq hlt (by omega : p ≤ 101)], rfl⟩
  · have hm : 0 < m := by
      rcases Nat.eq_zero_or_pos m with e | e
      · exfalso
        have e2 : p = 101 := by omega
        subst e2
        exact h0 (Nat.div_eq_of_lt hn)
      · exact e
    have hq : (0 : Int) < (n : Int) / 2 ^ p := hsp.mpr h0
    refine ⟨true, G ++ [.lst (plW p n)], by simp [fShr_int, hq], ?_⟩
    rw [if_pos rfl]
    have ha : fApp (.val (.loc G.length)) [.int p] (G ++ [.lst (plW p n)]) = .ok (.val .non) (G ++ [.lst (plW p n ++ [.int p])]) := by
      rw [appOk (us := plW p n) (by simp) (by omega)]; simp
    have hi : isLst (.val (.loc G.length)) (G ++ [.lst (plW p n)]) = true := isLst_ok (us := plW p n) (by simp)
    cases ht : n.testBit p with
    | true =>
      rw [ht] at hs hb
      simp only [if_true] at hs
      simp [hb, ha, hi]
      exact ⟨m - 1, by omega, p + 1, by omega, by simp, by rw [hs]⟩
    | false =>
      rw [ht] at hs hb
      simp only [if_false, Bool.false_eq_true] at hs
      simp [hb, ha, hi]
      exact ⟨m - 1, by omega, p + 1, by omega, by simp, by rw [hs, List.append_nil]⟩
end Lk06
set_option Elab.async false
set_option linter.all false
set_option maxRecDepth 100000
set_option maxHeartbeats 4000000
namespace Lk06
open PySem PySem.Spec PyProof.Rows L2 Sy
open N7
/-! drawn masks -/
theorem pw_val (w : Nat) : pw w = ((2 ^ w : Nat) : Int) := rfl
theorem mask_eq {ns : List Int} (hb : ∀ z ∈ ns, Builtin.Int.intBits z ≤ 1048576) (at_ wide high : Nat) (ha : at_ ≤ 100) (w0 : 0 < wide) (w1 : wide ≤ 24) (h0 : 0 < high) (h1 : high ≤ 24) (G : GH) :
    ∃ rows xs, GoodM wide rows ∧ rows.length = high ∧ m_law_mask [scr ns, .int at_, .int wide, .int high] G = .ok (mk wide rows) (G ++ xs) := by
  suffices hbod : ∃ rows xs, GoodM wide rows ∧ rows.length = high ∧ b_law_mask [some (scr ns), some (.int at_), some (.int wide), some (.int high), none, none, none, none, none] G = .rt (mk wide rows) (G ++ xs) by
    obtain ⟨rows, xs, g, hl, e⟩ := hbod
    exact ⟨rows, xs, g, hl, mDef_ok _ e⟩
  unfold b_law_mask
  have hp := power_pw wide (by omega)
  have hpos := pw_pos wide
  rw [seq_nx (τ1 := [some (scr ns), some (.int at_), some (.int wide), some (.int high), none, none, none, some (.loc G.length), none]) (G1 := G ++ [.lst []]) (by simp)]
  rw [seq_nx (τ1 := [some (scr ns), some (.int at_), some (.int wide), some (.int high), some (.int (pw wide - 1)), none, none, some (.loc G.length), none]) (G1 := G ++ [.lst []]) (by simp [hp])]
  rw [sSeq_at, sFor_at, show miR (mCons (mVar 3) mNil) [some (scr ns), some (.int at_), some (.int wide), some (.int high), some (.int (pw wide - 1)), none, none, some (.loc G.length), none] (G ++ [.lst []]) = .ok (rangeW 0 high, []) (G ++ [.lst []]) by
    have := iterR_nat high (by omega) (G ++ [.lst []])
    simp [miR_at, this], R.toS_ok]
  refine forL_run (I := fun i τ G' => ∃ s5 s6 s8 rows, rows.length = i ∧ (∀ r ∈ rows, r < 2 ^ wide) ∧ τ = [some (scr ns), some (.int at_), some (.int wide), some (.int high), some (.int (pw wide - 1)), s5, s6, some (.loc G.length), s8] ∧ G' = G ++ [.lst (nW rows)])
    (E := fun r => ∃ rows xs, GoodM wide rows ∧ rows.length = high ∧ r.andThen (sRet (mTup (mCons (mVar 2) (mCons (mBi fTuple (mConsT (mVar 7) mNilT)) mNil)))) = .rt (mk wide rows) (G ++ xs)) (src := []) (ws := rangeW 0 high)
    (τ := [some (scr ns), some (.int at_), some (.int wide), some (.int high), some (.int (pw wide - 1)), none, none, some (.loc G.length), none]) (G := G ++ [.lst []]) ⟨_, _, _, [], rfl, by simp, rfl, rfl⟩ ?_ ?_
  · rintro y w τ G' hw ⟨s5, s6, s8, rows, hl, hr, rfl, rfl⟩
    obtain ⟨hy, rfl⟩ := rangeW_get hw
    rw [Int.zero_add]
    refine ⟨still_nil, _, rfl, ?_⟩
    obtain ⟨r, hr0, hm⟩ := mixed_nat hb (at_ + y % 10) (by omega)
    have hm' : ∀ G, m_law_mixed [scr ns, .int ((at_ : Int) + (y : Int) % 10)] G = .ok (.int r) G := fun G => by
      have := hm G
      rwa [show ((at_ + y % 10 : Nat) : Int) = (at_ : Int) + (y : Int) % 10 by omega] at this
    obtain ⟨n, hn⟩ : ∃ n : Nat, (r : Int) + 977 * y * y = n := nat_of (Int.add_nonneg (by omega) (Int.mul_nonneg (Int.mul_nonneg (by decide) (by omega)) (by omega)))
    have hyy : (977 * (y : Int)) * y ≤ 977 * 24 * 24 := by
      have a1 : 977 * (y : Int) ≤ 977 * 24 := by omega
      exact Int.le_trans (Int.mul_le_mul_of_nonneg_right a1 (by omega)) (Int.mul_le_mul_of_nonneg_left (by omega) (by decide))
    have hn2 : (n : Int) < 100000000 := by omega
    have m1 : mulOk 977 (y : Int) = true := mulOk_of (a := 10) (b := 10) (by decide) (bits_small (by omega) (by omega)) (by decide)
    have m2 : mulOk (977 * (y : Int)) (y : Int) = true := mulOk_of (a := 30) (b := 10) (bits_small (by omega) (by omega)) (bits_small (by omega) (by omega)) (by decide)
    have m3 : mulOk (n : Int) 40692 = true := mulOk_of (a := 30) (b := 16) (bits_small (by omega) (by omega)) (by decide) (by decide)
    have m4 : mulOk (n : Int) 16807 = true := mulOk_of (a := 30) (b := 16) (bits_small (by omega) (by omega)) (by decide) (by decide)
    -- the row's number
    have modw : ∀ z : Int, ∃ q : Nat, z % pw wide = q ∧ q < 2 ^ wide := fun z => by
      have e1 := Int.emod_nonneg z (show pw wide ≠ 0 by omega)
      have e2 := Int.emod_lt_of_pos z hpos
      obtain ⟨q, hq⟩ := nat_of e1
      refine ⟨q, hq, ?_⟩
      rw [hq, pw_val] at e2
      exact Int.ofNat_lt.mp e2
    obtain ⟨q1, hq1, hq1l⟩ := modw ((n : Int) * 40692 % 1000000007)
    obtain ⟨q2, hq2, hq2l⟩ := modw ((n : Int) * 16807)
    have hfull : pw wide - 1 + 1 = pw wide := by omega
    have hfm : ∀ (z : Int) (G : GH), fMod (.val (.int z)) (.val (.int (pw wide))) G = .ok (.val (.int (z % pw wide))) G := fun z G => fMod_int hpos
    obtain ⟨f, hf, hfl⟩ : ∃ f : Nat, pw wide - 1 = f ∧ f < 2 ^ wide := by
      obtain ⟨f, hf⟩ := nat_of (show 0 ≤ pw wide - 1 by omega)
      refine ⟨f, hf, ?_⟩
      have : (f : Int) < ((2 ^ wide : Nat) : Int) := by rw [← pw_val]; omega
      exact Int.ofNat_lt.mp this
    obtain ⟨k, hk, hk6⟩ := mod_nat ((n : Int) / 3) (m := 6) (by decide)
    have hk' : (n : Int) / 3 % 6 = k := hk
    obtain ⟨v, hv, hpick⟩ : ∃ v : Nat, v < 2 ^ wide ∧ ∀ G, fIx (.tmp [.int q1, .int 0, .int f, .int q2, .int q1, .int q1]) (.val (.int k)) G = .ok (.val (.int v)) G := by
      have : k = 0 ∨ k = 1 ∨ k = 2 ∨ k = 3 ∨ k = 4 ∨ k = 5 := by omega
      rcases this with rfl | rfl | rfl | rfl | rfl | rfl
      · exact ⟨q1, hq1l, fun G => fIx_tmp (k := 0) rfl⟩
      · exact ⟨0, Nat.pow_pos (by decide), fun G => fIx_tmp (k := 1) rfl⟩
      · exact ⟨f, hfl, fun G => fIx_tmp (k := 2) rfl⟩
      · exact ⟨q2, hq2l, fun G => fIx_tmp (k := 3) rfl⟩
      · exact ⟨q1, hq1l, fun G => fIx_tmp (k := 4) rfl⟩
      · exact ⟨q1, hq1l, fun G => fIx_tmp (k := 5) rfl⟩
    have e3 := isLst_ok (G := G ++ [.lst (nW rows)]) (n := G.length) (us := nW rows) (by simp)
    have e4 := appOk (G := G ++ [.lst (nW rows)]) (n := G.length) (us := nW rows) (w := .int v) (by simp) (by rw [List.length_map]; omega)
    rw [set_top0, List.set_cons_zero] at e4
    have hfull2 : (f : Int) + 1 = pw wide := by omega
    have l3 : Nat.log2 3 < 9000 := by decide
    show Turn _ _ (sSeq _ _ [some (scr ns), some (.int at_), some (.int wide), some (.int high), some (.int (pw wide - 1)), s5, s6, some (.loc G.length), some (.int y)] _)
    generalize hus : nW rows = us at *
    generalize pw wide - 1 = F at *
    generalize pw wide = W2 at *
    rw [seq_nx (τ1 := [some (scr ns), some (.int at_), some (.int wide), some (.int high), some (.int F), some (.int n), s6, some (.loc G.length), some (.int y)]) (G1 := G ++ [.lst us]) (by simp [hm', fMul_int, fMod_int, m1, m2, hn])]
    rw [seq_nx (τ1 := [some (scr ns), some (.int at_), some (.int wide), some (.int high), some (.int F), some (.int n), some (.int q1), some (.loc G.length), some (.int y)]) (G1 := G ++ [.lst us]) (by simp [fMul_int, fMod_int, m3, hfull, hfm, hq1])]
    have hlast : (sDrop (mMtF isLst fApp (mVar 7) (mCons (mBin fIx (mLst (mCons (mVar 6) (mCons (mC (.int 0)) (mCons (mVar 4) (mCons (mBin fMod (mBin fMul (mVar 5) (mC (.int 16807))) (mBin fAdd (mVar 4) (mC (.int 1)))) (mCons (mVar 6) (mCons (mVar 6) mNil))))))) (mBin fMod (mBin fFdiv (mVar 5) (mC (.int 3))) (mC (.int 6)))) mNil)))
        [some (scr ns), some (.int at_), some (.int wide), some (.int high), some (.int F), some (.int n), some (.int q1), some (.loc G.length), some (.int y)] (G ++ [.lst us]) = .nx [some (scr ns), some (.int at_), some (.int wide), some (.int high), some (.int F), some (.int n), some (.int q1), some (.loc G.length), some (.int y)] (G ++ [.lst (us ++ [.int v])]) := by
      simp [fMul_int, fMod_int, fFdiv_int, m4, hfull2, hfm, hq2, hf, l3, hk', hpick, e3, e4]
    rw [hlast]
    refine ⟨_, _, _, rows ++ [v], by simp [hl], fun x hx => ?_, rfl, by rw [← hus]; simp [nW]⟩
    rcases List.mem_append.mp hx with hx | hx
    · exact hr x hx
    · rw [List.mem_singleton] at hx
      subst hx
      exact hv
  · rintro τ G' ⟨s5, s6, s8, rows, hl, hr, rfl, rfl⟩
    rw [rangeW_len] at hl
    refine ⟨still_nil, rows, [.lst (nW rows)], ⟨w0, w1, by omega, by omega, hr⟩, hl, ?_⟩
    have e6 := fTuple_loc (G := G ++ [.lst (nW rows)]) (n := G.length) (ws := nW rows) (by simp)
    unfold mk
    generalize nW rows = L at *
    simp [e6]
/-! places -/
abbrev pW (ps : Pl) : List W := ps.map fun p => .tup [.int (p.1 : Nat), .int (p.2 : Nat)]
theorem mod2n (r x : Nat) : ((r / 2 ^ x : Nat) : Int) % 2 = if r.testBit x then 1 else 0 := by
  rw [Nat.testBit_eq_decide_div_mod_eq]
  by_cases h : r / 2 ^ x % 2 = 1
  · rw [if_pos (by simpa using h)]; omega
  · rw [if_neg (by simpa using h)]; omega
theorem half2n (r x : Nat) : ((r / 2 ^ x : Nat) : Int) / 2 = ((r / 2 ^ (x + 1) : Nat) : Int) := by
  rw [Nat.pow_succ, ← Nat.div_div_eq_div_mul]; omega
theorem rowP_len (wide y r : Nat) : (rowP wide y r).length ≤ wide := by
  unfold rowP
  rw [List.length_map]
  have := List.length_filter_le r.testBit (List.range wide)
  rwa [List.length_range] at this
theorem rowP_succ (wide y r : Nat) : rowP (wide + 1) y r = rowP wide y r ++ if r.testBit wide then [(wide, y)] else [] := by
  unfold rowP
  rw [List.range_succ, List.filter_append, List.map_append]
  congr 1
  cases e : r.testBit wide <;> simp [e]
theorem placesP_len (wide : Nat) (rows : List Nat) : ∀ k, (placesP wide rows k).length ≤ wide * k := by
  intro k
  induction k with
  | zero => simp [placesP]
  | succ k ih =>
    rw [placesP_succ, List.length_append, Nat.mul_succ]
    have := rowP_len wide k (rows.getD k 0)
    omega
theorem places_eq {wide : Nat} {rows : List Nat} (g : GoodM wide rows) (G : GH) : m_law_places [mk wide rows] G = .ok (.loc G.length) (G ++ [.lst (pW (placesP wide rows rows.length))]) := by
  refine mDef_ok [some (mk wide rows), none, none, none, none] ?_
  unfold b_law_places
  have hw1 := g.w1
  have hh1 := g.h1
  rw [seq_nx (τ1 := [some (mk wide rows), some (.loc G.length), none, none, none]) (G1 := G ++ [.lst []]) (by simp)]
  have hmi : ∀ s2 s3 s4 G, miR (mCons (mBi fLen (mConsT (mBin fIx (mVar 0) (mC (.int 1))) mNilT)) mNil) [some (mk wide rows), some (.loc s4), s2, s3, none] G = .ok (rangeW 0 rows.length, []) G := fun s2 s3 s4 G => by
    have := iterR_nat rows.length (by omega) G
    simp [miR_at, mk, this]
  have hmi2 : ∀ s2 s3 s4 L G, miR (mCons (mBin fIx (mVar 0) (mC (.int 0))) mNil) [some (mk wide rows), some (.loc L), s2, s3, s4] G = .ok (rangeW 0 wide, []) G := fun s2 s3 s4 L G => by
    have := iterR_nat wide (by omega) G
    simp [miR_at, mk, this]
  rw [sSeq_at, sFor_at, hmi, R.toS_ok]
  refine forL_run (I := fun i τ G' => ∃ s2 s3 s4, τ = [some (mk wide rows), some (.loc G.length), s2, s3, s4] ∧ G' = G ++ [.lst (pW (placesP wide rows i))]) (E := fun r => r.andThen (sRet (mVar 1)) = .rt (.loc G.length) (G ++ [.lst (pW (placesP wide rows rows.length))])) (src := []) (ws := rangeW 0 rows.length)
    (τ := [some (mk wide rows), some (.loc G.length), none, none, none]) (G := G ++ [.lst []]) ⟨_, _, _, rfl, rfl⟩ ?_ ?_
  · rintro y w τ G' hw ⟨s2, s3, s4, rfl, rfl⟩
    obtain ⟨hy, rfl⟩ := rangeW_get hw
    rw [Int.zero_add]
    refine ⟨still_nil, _, rfl, ?_⟩
    have hrow : rows.getD y 0 = rows[y] := by rw [List.getD_eq_getElem?_getD, List.getElem?_eq_getElem hy]; rfl
    have hix : ∀ G, fIx (.val (.tup (nW rows))) (.val (.int y)) G = .ok (.val (.int (rows[y] : Nat))) G := fun G => fIx_tup (by rw [List.getElem?_map, List.getElem?_eq_getElem hy]; rfl)
    rw [placesP_succ, hrow]
    have hpl := placesP_len wide rows y
    have hwy : wide * y ≤ 24 * 24 := Nat.mul_le_mul hw1 (by omega)
    generalize placesP wide rows y = P at *
    generalize rows[y] = r at *
    show Turn _ _ (sSeq _ _ [some (mk wide rows), some (.loc G.length), s2, s3, some (.int y)] _)
    rw [seq_nx (τ1 := [some (mk wide rows), some (.loc G.length), some (.int (r : Nat)), s3, some (.int y)]) (G1 := G ++ [.lst (pW P)]) (by
      generalize pW P = us at *
      simp [mk, hix])]
    rw [sFor_at, hmi2, R.toS_ok]
    refine forL_run (I := fun x τ G' => ∃ s3, τ = [some (mk wide rows), some (.loc G.length), some (.int (r / 2 ^ x : Nat)), s3, some (.int y)] ∧ G' = G ++ [.lst (pW (P ++ rowP x y r))]) (E := fun q => Turn (fun τ G' => ∃ s2 s3 s4, τ = [some (mk wide rows), some (.loc G.length), s2, s3, s4] ∧ G' = G ++ [.lst (pW (P ++ rowP wide y r))]) (fun r => r.andThen (sRet (mVar 1)) = .rt (.loc G.length) (G ++ [.lst (pW (placesP wide rows rows.length))])) q) (src := []) (ws := rangeW 0 wide)
      (τ := [some (mk wide rows), some (.loc G.length), some (.int (r : Nat)), s3, some (.int y)]) (G := G ++ [.lst (pW P)]) ⟨s3, by rw [Nat.pow_zero, Nat.div_one], by simp [rowP]⟩ ?_ ?_
    · rintro x w τ G' hw ⟨s3, rfl, rfl⟩
      obtain ⟨hx, rfl⟩ := rangeW_get hw
      rw [Int.zero_add]
      refine ⟨still_nil, _, rfl, ?_⟩
      have hrl := rowP_len x y r
      have m2 := mod2n r x
      have h2 := half2n r x
      have hsucc : pW (P ++ rowP (x + 1) y r) = pW (P ++ rowP x y r) ++ if r.testBit x then [.tup [.int x, .int y]] else [] := by
        rw [rowP_succ, ← List.append_assoc, pW, List.map_append]
        cases r.testBit x <;> rfl
      have e3 := isLst_ok (G := G ++ [.lst (pW (P ++ rowP x y r))]) (n := G.length) (us := pW (P ++ rowP x y r)) (by simp)
      have e4 := appOk (G := G ++ [.lst (pW (P ++ rowP x y r))]) (n := G.length) (us := pW (P ++ rowP x y r)) (w := .tup [.int x, .int y]) (by simp) (by rw [List.length_map, List.length_append]; omega)
      rw [set_top0, List.set_cons_zero] at e4
      rw [hsucc]
      show Turn _ _ (sSeq _ _ [some (mk wide rows), some (.loc G.length), some (.int (r / 2 ^ x : Nat)), some (.int x), some (.int y)] _)
      generalize pW (P ++ rowP x y r) = us at *
      generalize ((r / 2 ^ x : Nat) : Int) = q at *
      generalize ((r / 2 ^ (x + 1) : Nat) : Int) = q2 at *
      generalize mk wide rows = m at *
      have l2 : Nat.log2 2 < 9000 := by decide
      cases ht : r.testBit x with
      | true =>
        rw [ht, if_pos rfl] at m2
        rw [seq_nx (τ1 := [some m, some (.loc G.length), some (.int q), some (.int x), some (.int y)]) (G1 := G ++ [.lst (us ++ [.tup [.int x, .int y]])]) (by
          simp [fMod_int, m2, e3, e4])]
        rw [show sSet 2 (mBin fFdiv (mVar 2) (mC (.int 2))) [some m, some (.loc G.length), some (.int q), some (.int x), some (.int y)] (G ++ [.lst (us ++ [.tup [.int x, .int y]])]) = .nx [some m, some (.loc G.length), some (.int q2), some (.int x), some (.int y)] (G ++ [.lst (us ++ [.tup [.int x, .int y]])]) by simp [fFdiv_int, l2, h2]]
        exact ⟨_, rfl, rfl⟩
      | false =>
        rw [ht, if_neg Bool.false_ne_true] at m2
        rw [seq_no (G1 := G ++ [.lst us]) (by simp [fMod_int, m2])]
        rw [show sSet 2 (mBin fFdiv (mVar 2) (mC (.int 2))) [some m, some (.loc G.length), some (.int q), some (.int x), some (.int y)] (G ++ [.lst us]) = .nx [some m, some (.loc G.length), some (.int q2), some (.int x), some (.int y)] (G ++ [.lst us]) by simp [fFdiv_int, l2, h2]]
        exact ⟨_, rfl, by simp⟩
    · rintro τ G' ⟨s3, rfl, rfl⟩
      rw [rangeW_len]
      exact ⟨still_nil, _, _, _, rfl, rfl⟩
  · rintro τ G' ⟨s2, s3, s4, rfl, rfl⟩
    rw [rangeW_len]
    exact ⟨still_nil, by simp⟩
open N7
theorem mk_dat (wide : Nat) (rows : List Nat) (G : GH) : toDT G (.val (mk wide rows)) = some (.tuple [.int wide, .tuple (rows.map fun (r : Nat) => PyData.int r)]) := by
  have e : mapO (toD 7 G) (nW rows) = some (rows.map fun (r : Nat) => PyData.int r) := by
    have := mapO_ints 6 G (rows.map fun (r : Nat) => (r : Int))
    rw [List.map_map, List.map_map] at this
    exact this
  simp [e]
theorem noDict_mk (wide : Nat) (rows : List Nat) : noDict (.tuple [.int wide, .tuple (rows.map fun (r : Nat) => PyData.int r)]) = true := by
  have e : noDictA (rows.map fun (r : Nat) => PyData.int r) = true := by
    induction rows with
    | nil => rfl
    | cons r rows ih => rw [List.map_cons, noDictA, ih]; rfl
  simp [noDict, noDictA, e]
theorem mk_ne (wide : Nat) (rows : List Nat) (G : GH) : fNe (.val (mk wide rows)) (.val (mk wide rows)) G = .ok (.val (.bl false)) G := ne_same (mk_dat wide rows G) (mk_dat wide rows G) (noDict_mk wide rows)
theorem same_mask_eq (wide : Nat) (rows : List Nat) (hl : rows.length ≤ 1000) (G : GH) : m_law_same_mask [mk wide rows, mk wide rows] G = .ok (.bl true) G := by
  refine mDef_ok [some (mk wide rows), some (mk wide rows), none] ?_
  unfold b_law_same_mask
  have e1 := mk_ne wide rows G
  have hc : compF [] (gN 2) mYes (mCall m_law_whole [] (mCons (mVar 2) mNil)) [some (mk wide rows), some (mk wide rows), none] (nW rows) G = .ok ((nW rows).map fun _ => W.bl true) G := by
    refine compF_map (fun _ => .bl true) still_nil fun w hw => ⟨_, rfl, rfl, ?_⟩
    obtain ⟨r, hr, rfl⟩ := List.mem_map.mp hw
    have := whole_int r
    simp [this]
  have hall := fAll_yes (nW rows) G
  have hl2 : (nW rows).length ≤ 16777216 := by rw [List.length_map]; omega
  have hwh := whole_int wide
  generalize (nW rows).map (fun _ => W.bl true) = L at *
  unfold mk at *
  generalize nW rows = ws at *
  rw [seq_no (G1 := G) (by simp [e1])]
  simp [hwh, mComp_at, miA_at, wipeS, hl2, hc, hall]
/-! masks by places -/
theorem sPut_ok {mo mi m : M T} {τ : Sl} {G G1 G2 G3 : GH} {w : W} {n k : Nat} {us : List W} (hm : (m τ G).bind force = .ok w G1) (ho : mo τ G1 = .ok (.val (.loc n)) G2) (hi : mi τ G2 = .ok (.val (.int k)) G3) (hu : G3[n]? = some (.lst us)) (hk : k < us.length) :
    sPut mo mi m τ G = .nx τ (G3.set n (.lst (us.set k w))) := by
  unfold sPut
  have e : ixN us.length (k : Int) = some k := by
    unfold ixN
    rw [if_pos (by omega), if_pos (by omega)]; rfl
  have hm' : mF m τ G = .ok w G1 := hm
  rw [hm']
  simp only [R.toS_ok, ho, hi, lstAt_loc, hu, Option.bind_some, wr_lst, Option.map_some, e]
theorem rowsOf_len (ps : Pl) (high : Nat) : (rowsOf ps high).length = high := by simp [rowsOf]
theorem rowsOf_get {ps : Pl} {high y : Nat} (h : y < high) : (rowsOf ps high)[y]? = some (sumAt ps y) := by
  unfold rowsOf
  rw [List.getElem?_map, List.getElem?_range h]; rfl
theorem sumAt_snoc (ps : Pl) (x y y' : Nat) : sumAt (ps ++ [(x, y)]) y' = sumAt ps y' + if y = y' then 2 ^ x else 0 := by
  rw [sumAt_app]
  congr 1
  unfold sumAt
  by_cases h : y = y'
  · simp [h]
  · simp [h]
theorem rowsOf_snoc {ps : Pl} {high x y : Nat} (h : y < high) : rowsOf (ps ++ [(x, y)]) high = (rowsOf ps high).set y (sumAt ps y + 2 ^ x) := by
  apply List.ext_getElem?
  intro j
  by_cases hj : j < high
  · rw [rowsOf_get hj, sumAt_snoc]
    by_cases e : y = j
    · subst e
      rw [if_pos rfl, List.getElem?_set_self (by rw [rowsOf_len]; exact hj)]
    · rw [if_neg e, Nat.add_zero, List.getElem?_set_ne e, rowsOf_get hj]
  · rw [List.getElem?_eq_none (by rw [rowsOf_len]; omega), List.getElem?_eq_none (by rw [List.length_set, rowsOf_len]; omega)]
theorem mask_by_eq {G : GH} {L wide high : Nat} {ps : Pl} (h : G[L]? = some (.lst (pW ps))) (hp : ∀ p ∈ ps, p.1 ≤ 200 ∧ p.2 < high) (h1 : high ≤ 24) : ∃ xs, m_law_mask_by [.loc L, .int wide, .int high] G = .ok (mk wide (rowsOf ps high)) (G ++ xs) := by
  refine ⟨[.lst (nW (rowsOf ps high))], mDef_ok [some (.loc L), some (.int wide), some (.int high), none, none, none] ?_⟩
  unfold b_law_mask_by
  have hz : repW [.int 0] high = nW (rowsOf [] high) := by
    have e : rowsOf [] high = List.replicate high 0 := by
      unfold rowsOf
      rw [List.eq_replicate_iff]
      refine ⟨by simp, fun b hb => ?_⟩
      obtain ⟨y, _, rfl⟩ := List.mem_map.mp hb
      rfl
    rw [e]
    unfold repW nW
    rw [List.map_replicate]
    clear e
    clear h1 hp h
    induction high with
    | zero => rfl
    | succ n ih => rw [List.replicate_succ, List.flatten_cons, ih, List.replicate_succ]; rfl
  have hmul : fMul (.tmp [.int 0]) (.val (.int high)) G = .ok (.tmp (nW (rowsOf [] high))) G := by
    unfold fMul
    have i1 : (-(2 ^ 63) : Int) ≤ high := by
      have : (-(2 ^ 63) : Int) ≤ 0 := by decide
      omega
    have i2 : (high : Int) < 2 ^ 63 := by
      have : (24 : Int) < 2 ^ 63 := by decide
      omega
    simp only [wrl_tmp, decide_eq_true i1, decide_eq_true i2, Int.toNat_natCast, List.length_singleton, Nat.one_mul, decide_eq_true (show high ≤ 16777216 by omega), Bool.and_self, if_true, hz]
  rw [seq_nx (τ1 := [some (.loc L), some (.int wide), some (.int high), some (.loc G.length), none, none]) (G1 := G ++ [.lst (nW (rowsOf [] high))]) (by
    generalize nW (rowsOf [] high) = us at *
    simp [hmul])]
  have hLl : L < G.length := (List.getElem?_eq_some_iff.mp h).1
  have hmi : miA (mVar 0) [some (.loc L), some (.int wide), some (.int high), some (.loc G.length), none, none] (G ++ [.lst (nW (rowsOf [] high))]) = .ok (pW ps, [(L, pW ps)]) (G ++ [.lst (nW (rowsOf [] high))]) := by
    have := iterA_at (get_mono h [.lst (nW (rowsOf [] high))])
    generalize nW (rowsOf [] high) = us at *
    generalize pW ps = ws at *
    simp [miA_at, this]
  rw [sSeq_at, sFor_at, hmi, R.toS_ok]
  refine forL_run (I := fun i τ G' => ∃ s4 s5, τ = [some (.loc L), some (.int wide), some (.int high), some (.loc G.length), s4, s5] ∧ G' = G ++ [.lst (nW (rowsOf (ps.take i) high))]) (E := fun r => r.andThen (sRet (mTup (mCons (mVar 1) (mCons (mBi fTuple (mConsT (mVar 3) mNilT)) mNil)))) = .rt (mk wide (rowsOf ps high)) (G ++ [.lst (nW (rowsOf ps high))])) (src := [(L, pW ps)]) (ws := pW ps)
    (τ := [some (.loc L), some (.int wide), some (.int high), some (.loc G.length), none, none]) (G := G ++ [.lst (nW (rowsOf [] high))]) ⟨none, none, rfl, rfl⟩ ?_ ?_
  · rintro i w τ G' hw ⟨s4, s5, rfl, rfl⟩
    rw [List.getElem?_map] at hw
    cases ep : ps[i]? with
    | none => rw [ep] at hw; cases hw
    | some p =>
      rw [ep] at hw
      cases hw
      obtain ⟨x, y⟩ := p
      obtain ⟨hx, hy⟩ := hp (x, y) (List.mem_of_getElem? ep)
      refine ⟨still_of (get_mono h _), _, rfl, ?_⟩
      have hpx := power_pw x hx
      have hget : (nW (rowsOf (ps.take i) high))[y]? = some (.int (sumAt (ps.take i) y : Nat)) := by rw [List.getElem?_map, rowsOf_get hy]; rfl
      have hix : fIx (.val (.loc G.length)) (.val (.int y)) (G ++ [.lst (nW (rowsOf (ps.take i) high))]) = .ok (.val (.int (sumAt (ps.take i) y : Nat))) (G ++ [.lst (nW (rowsOf (ps.take i) high))]) := fIx_loc (by simp) hget
      have hnew : nW (rowsOf (ps.take (i + 1)) high) = (nW (rowsOf (ps.take i) high)).set y (.int ((sumAt (ps.take i) y : Nat) + pw x)) := by
        rw [List.take_add_one, ep, show (some (x, y)).toList = [(x, y)] from rfl, rowsOf_snoc hy, nW, List.map_set]
        congr 2
      have hlen : (nW (rowsOf (ps.take i) high)).length = high := by rw [List.length_map, rowsOf_len]
      have hput := sPut_ok (mo := mVar 3) (mi := mVar 5) (m := mBin fAdd (mBin fIx (mVar 3) (mVar 5)) (mCall m_law_power [] (mCons (mVar 4) mNil))) (τ := [some (.loc L), some (.int wide), some (.int high), some (.loc G.length), some (.int x), some (.int y)]) (G := G ++ [.lst (nW (rowsOf (ps.take i) high))]) (G1 := G ++ [.lst (nW (rowsOf (ps.take i) high))]) (G2 := G ++ [.lst (nW (rowsOf (ps.take i) high))]) (G3 := G ++ [.lst (nW (rowsOf (ps.take i) high))])
        (w := .int ((sumAt (ps.take i) y : Nat) + pw x)) (n := G.length) (k := y) (us := nW (rowsOf (ps.take i) high)) (by
          generalize nW (rowsOf (ps.take i) high) = us at *
          simp [hix, hpx]) rfl rfl (by simp) (by rw [hlen]; exact hy)
      rw [set_top0, List.set_cons_zero, ← hnew] at hput
      show Turn _ _ (sPut _ _ _ [some (.loc L), some (.int wide), some (.int high), some (.loc G.length), some (.int x), some (.int y)] _)
      rw [hput]
      exact ⟨_, _, rfl, rfl⟩
  · rintro τ G' ⟨s4, s5, rfl, rfl⟩
    rw [show (pW ps).length = ps.length by simp, List.take_length]
    have e6 := fTuple_loc (G := G ++ [.lst (nW (rowsOf ps high))]) (n := G.length) (ws := nW (rowsOf ps high)) (by simp)
    refine ⟨still_of (get_mono h _), ?_⟩
    unfold mk
    generalize nW (rowsOf ps high) = us at *
    simp [e6]
end Lk06
set_option Elab.async false
set_option linter.all false
set_option maxRecDepth 100000
set_option maxHeartbeats 4000000
namespace Lk06
open PySem PySem.Spec PyProof.Rows L2 Sy
theorem fMul_str (x : Str) (k : Int) (G : GH) (h : repOk x k = true) : fMul (.val (.str x)) (.val (.int k)) G = .ok (.val (.str (repS x k))) G := by
  unfold fMul
  simp only [h, if_true]
theorem fAdd_str (x y : Str) (G : GH) (h : x.length + y.length ≤ 16777216) : fAdd (.val (.str x)) (.val (.str y)) G = .ok (.val (.str (x ++ y))) G := by
  unfold fAdd
  simp only [h, if_true]
theorem mul0 (x : Str) (G : GH) (h : x.length ≤ 1000) : fMul (.val (.str x)) (.val (.int 0)) G = .ok (.val (.str "")) G := by
  rw [fMul_str]
  · rfl
  · unfold repOk
    simp [repS, Str.empty, Str.length]
theorem mul1 (x : Str) (G : GH) (h : x.length ≤ 1000) : fMul (.val (.str x)) (.val (.int 1)) G = .ok (.val (.str x)) G := by
  rw [fMul_str]
  · rfl
  · unfold repOk
    simp [repS]
    omega
theorem isE (a : Addr) (k : W) (b : Bool) (G : GH) (h : (ckW k).bind (isub it 5) = some b) : fIsE it 5 a [.val (.exn 5 a), .val k] G = .ok (.val (.bl b)) G := fIsE_ok h
theorem class_5 (a : Addr) (G : GH) : m_law_class 5 a [.exn 5 a] G = .ok (.str "value mask") G := by
  refine mDef_ok [some (.exn 5 a), none] ?_
  unfold b_law_class
  have e0 := isE a (.ty "ValueError") true G rfl
  have e1 := isE a (.cls 1) false G rfl
  have e2 := isE a (.cls 2) false G rfl
  have e3 := isE a (.cls 3) false G rfl
  have e4 := isE a (.cls 4) false G rfl
  have e5 := isE a (.cls 5) true G rfl
  have e6 := isE a (.cls 6) false G rfl
  have e7 := isE a (.cls 7) false G rfl
  have i0 : fInt [.val (.bl false)] G = .ok (.val (.int 0)) G := rfl
  have i1 : fInt [.val (.bl true)] G = .ok (.val (.int 1)) G := rfl
  have a1 : fAdd (.val (.str "value ")) (.val (.str "")) G = .ok (.val (.str "value ")) G := fAdd_str _ _ _ (by decide +kernel)
  have a2 : fAdd (.val (.str "value ")) (.val (.str "mask")) G = .ok (.val (.str "value mask")) G := fAdd_str _ _ _ (by decide +kernel)
  have a3 : fAdd (.val (.str "value mask")) (.val (.str "")) G = .ok (.val (.str "value mask")) G := fAdd_str _ _ _ (by decide +kernel)
  have m1 := mul1 "value " G (by decide +kernel)
  have m2 := mul0 "picture" G (by decide +kernel)
  have m3 := mul0 "cell" G (by decide +kernel)
  have m4 := mul0 "size" G (by decide +kernel)
  have m5 := mul1 "mask" G (by decide +kernel)
  have m6 := mul0 "place" G (by decide +kernel)
  have m7 := mul0 "edge" G (by decide +kernel)
  have m8 := mul0 "rule" G (by decide +kernel)
  rw [seq_nx (τ1 := [some (.exn 5 a), some (.str "value ")]) (G1 := G) (by simp [e0, i1, m1])]
  rw [seq_nx (τ1 := [some (.exn 5 a), some (.str "value ")]) (G1 := G) (by simp [e1, e2, i0, m2, m3, a1])]
  rw [seq_nx (τ1 := [some (.exn 5 a), some (.str "value mask")]) (G1 := G) (by simp [e3, e5, i0, i1, m4, m5, a1, a2])]
  rw [seq_nx (τ1 := [some (.exn 5 a), some (.str "value mask")]) (G1 := G) (by simp [e4, e7, i0, m6, m7, a3])]
  simp [e6, i0, m8, a3]
theorem isE3 (a : Addr) (k : W) (b : Bool) (G : GH) (h : (ckW k).bind (isub it 3) = some b) : fIsE it 3 a [.val (.exn 3 a), .val k] G = .ok (.val (.bl b)) G := fIsE_ok h
theorem class_3 (a : Addr) (G : GH) : m_law_class 3 a [.exn 3 a] G = .ok (.str "value size") G := by
  refine mDef_ok [some (.exn 3 a), none] ?_
  unfold b_law_class
  have e0 := isE3 a (.ty "ValueError") true G rfl
  have e1 := isE3 a (.cls 1) false G rfl
  have e2 := isE3 a (.cls 2) false G rfl
  have e3 := isE3 a (.cls 3) true G rfl
  have e4 := isE3 a (.cls 4) false G rfl
  have e5 := isE3 a (.cls 5) false G rfl
  have e6 := isE3 a (.cls 6) false G rfl
  have e7 := isE3 a (.cls 7) false G rfl
  have i0 : fInt [.val (.bl false)] G = .ok (.val (.int 0)) G := rfl
  have i1 : fInt [.val (.bl true)] G = .ok (.val (.int 1)) G := rfl
  have a1 : fAdd (.val (.str "value ")) (.val (.str "")) G = .ok (.val (.str "value ")) G := fAdd_str _ _ _ (by decide +kernel)
  have a2 : fAdd (.val (.str "value ")) (.val (.str "size")) G = .ok (.val (.str "value size")) G := fAdd_str _ _ _ (by decide +kernel)
  have a3 : fAdd (.val (.str "value size")) (.val (.str "")) G = .ok (.val (.str "value size")) G := fAdd_str _ _ _ (by decide +kernel)
  have m1 := mul1 "value " G (by decide +kernel)
  have m2 := mul0 "picture" G (by decide +kernel)
  have m3 := mul0 "cell" G (by decide +kernel)
  have m4 := mul1 "size" G (by decide +kernel)
  have m5 := mul0 "mask" G (by decide +kernel)
  have m6 := mul0 "place" G (by decide +kernel)
  have m7 := mul0 "edge" G (by decide +kernel)
  have m8 := mul0 "rule" G (by decide +kernel)
  rw [seq_nx (τ1 := [some (.exn 3 a), some (.str "value ")]) (G1 := G) (by simp [e0, i1, m1])]
  rw [seq_nx (τ1 := [some (.exn 3 a), some (.str "value ")]) (G1 := G) (by simp [e1, e2, i0, m2, m3, a1])]
  rw [seq_nx (τ1 := [some (.exn 3 a), some (.str "value size")]) (G1 := G) (by simp [e3, e5, i0, i1, m4, m5, a1, a2, a3])]
  rw [seq_nx (τ1 := [some (.exn 3 a), some (.str "value size")]) (G1 := G) (by simp [e4, e7, i0, m6, m7, a3])]
  simp [e6, i0, m8, a3]
open N5
theorem bor_nat (a b : Nat) : Builtin.bitOr (a : Int) (b : Int) = ((a ||| b : Nat) : Int) := by
  have e2 : ∀ z : Int, Builtin.bitNot z = -z - 1 := fun n => rfl
  have h1 : decide (0 ≤ -(a : Int) - 1) = false := decide_eq_false (by omega)
  have h2 : decide (0 ≤ -(b : Int) - 1) = false := decide_eq_false (by omega)
  have e3 : ∀ n : Nat, (-(-(n : Int) - 1) - 1).toNat = n := fun n => by omega
  unfold Builtin.bitOr
  rw [e2 (a : Int), e2 (b : Int)]
  unfold Builtin.bitAnd
  rw [h1, h2]
  simp only [e2]
  rw [e3, e3]
  omega
theorem or_plus (c d : Nat) (h : c &&& d = 0) : c ||| d = c + d := by
  have e := bitOr_and (c : Int) (d : Int)
  rw [bor_nat, band_nat, h] at e
  omega
theorem xor_eq (a b : Nat) : a ||| b = (a ^^^ b) + (a &&& b) := by
  rw [← or_plus]
  · refine Nat.eq_of_testBit_eq fun i => ?_
    simp only [Nat.testBit_or, Nat.testBit_xor, Nat.testBit_and]
    cases a.testBit i <;> cases b.testBit i <;> rfl
  · refine Nat.eq_of_testBit_eq fun i => ?_
    simp only [Nat.testBit_xor, Nat.testBit_and, Nat.zero_testBit]
    cases a.testBit i <;> cases b.testBit i <;> rfl
theorem bxor_nat (a b : Nat) : Builtin.bitXor (a : Int) (b : Int) = ((a ^^^ b : Nat) : Int) := by
  have e1 := bitXor_and (a : Int) (b : Int)
  have e2 := bitOr_and (a : Int) (b : Int)
  have e3 := xor_eq a b
  rw [band_nat] at e1 e2
  rw [bor_nat] at e2
  omega
open N7 N6
/-! two masks, row by row -/
theorem iterZ_tup (ws us : List W) (G : GH) : iterZ [.val (.tup ws), .val (.tup us)] G = .ok (zipW ws us, []) G := rfl
theorem zip_nW (rows us : List Nat) : zipW (nW rows) (nW us) = (rows.zip us).map fun p => W.tup [.int (p.1 : Nat), .int (p.2 : Nat)] := by
  unfold zipW nW
  rw [List.zip_map, List.map_map]
  rfl
theorem zipWith_nW (op : Nat → Nat → Nat) (rows us : List Nat) : ((rows.zip us).map fun p => W.int (op p.1 p.2 : Nat)) = nW (List.zipWith op rows us) := by
  unfold nW
  rw [List.map_zipWith, List.zip, List.map_zipWith]
theorem zipped {wide : Nat} {rows us : List Nat} (e : M T) (op : Nat → Nat → Nat) (he : ∀ (a b : Nat) w1 w2 G, e [w1, w2, some (.int a), some (.int b)] G = .ok (.val (.int (op a b : Nat))) G) (g1 : GoodM wide rows) (g2 : GoodM wide us) (hl : us.length = rows.length) (G : GH) :
    (sSeq (sDrop (mCall m_need_masks [] (mCons (mLst (mCons (mVar 0) (mCons (mVar 1) mNil))) mNil))) (sRet (mTup (mCons (mBin fIx (mVar 0) (mC (.int 0))) (mCons (mBi fTuple (mConsT (mComp (miB iterZ (mConsT (mBin fIx (mVar 0) (mC (.int 1))) (mConsT (mBin fIx (mVar 1) (mC (.int 1))) mNilT))) (gT (gC (gN 2) (gC (gN 3) gE))) mYes e [2, 3]) mNilT)) mNil)))))
      [some (mk wide rows), some (mk wide us), none, none] G = .rt (mk wide (List.zipWith op rows us)) (G ++ [.lst [mk wide rows, mk wide us]]) := by
  have hn := need_masks_good (G := G ++ [.lst [mk wide rows, mk wide us]]) (n := G.length) (wide := wide) (rows0 := rows) (ms := [rows, us]) (by simp) rfl (by
    intro r hr
    simp at hr
    rcases hr with rfl | rfl
    · exact ⟨g1, rfl⟩
    · exact ⟨g2, hl⟩)
  rw [seq_nx (τ1 := [some (mk wide rows), some (mk wide us), none, none]) (G1 := G ++ [.lst [mk wide rows, mk wide us]]) (by
    generalize mk wide rows = m at *
    generalize mk wide us = m2 at *
    simp [hn])]
  generalize G ++ [GO.lst [mk wide rows, mk wide us]] = G1
  have hc : compF [] (gT (gC (gN 2) (gC (gN 3) gE))) mYes e [some (mk wide rows), some (mk wide us), none, none] (zipW (nW rows) (nW us)) G1 = .ok (nW (List.zipWith op rows us)) G1 := by
    rw [zip_nW, ← zipWith_nW]
    refine compF_paired (F := fun p : Nat × Nat => W.int (op p.1 p.2 : Nat)) still_nil ?_
    refine paired_map ?_
    refine paired_of rfl fun i x y e1 e2 => ?_
    rw [e1] at e2
    cases e2
    refine ⟨_, rfl, rfl, ?_⟩
    show (e [some (mk wide rows), some (mk wide us), some (.int x.1), some (.int x.2)] G1).bind force = _
    rw [he]
    rfl
  have hz : (zipW (nW rows) (nW us)).length ≤ 16777216 := by
    rw [zip_nW]
    simp
    have := g1.h1
    omega
  have hl2 : (nW (List.zipWith op rows us)).length ≤ 16777216 := by
    simp
    have := g1.h1
    omega
  have hzz := iterZ_tup (nW rows) (nW us) G1
  unfold mk at hc ⊢
  generalize nW (List.zipWith op rows us) = vs at *
  generalize zipW (nW rows) (nW us) = zs at *
  generalize nW rows = ws at *
  generalize nW us = xs at *
  simp [mComp_at, miB_at, wipeS, hzz, hz, hc, fTuple]
theorem zipWith_good {wide : Nat} {rows us : List Nat} {op : Nat → Nat → Nat} (ho : ∀ a b, a < 2 ^ wide → b < 2 ^ wide → op a b < 2 ^ wide) (g1 : GoodM wide rows) (g2 : GoodM wide us) (hl : us.length = rows.length) : GoodM wide (List.zipWith op rows us) :=
  ⟨g1.w0, g1.w1, by rw [List.length_zipWith, hl, Nat.min_self]; exact g1.h0, by rw [List.length_zipWith, hl, Nat.min_self]; exact g1.h1, fun r hr => by
    obtain ⟨i, hi⟩ := List.mem_iff_getElem?.mp hr
    rw [List.getElem?_zipWith] at hi
    cases e1 : rows[i]? with
    | none => rw [e1] at hi; cases hi
    | some a =>
      cases e2 : us[i]? with
      | none => rw [e1, e2] at hi; cases hi
      | some b =>
        rw [e1, e2] at hi
        cases hi
        exact ho a b (g1.row a (List.mem_of_getElem? e1)) (g2.row b (List.mem_of_getElem? e2))⟩
section
variable {wide : Nat} {rows us : List Nat}
theorem both_eq (g1 : GoodM wide rows) (g2 : GoodM wide us) (hl : us.length = rows.length) (G : GH) : m_both_masks [mk wide rows, mk wide us] G = .ok (mk wide (List.zipWith (opN 0) rows us)) (G ++ [.lst [mk wide rows, mk wide us]]) :=
  mDef_ok [some (mk wide rows), some (mk wide us), none, none] (zipped _ (opN 0) (fun a b w1 w2 G => by simp [band_nat, opN]) g1 g2 hl G)
theorem either_eq (g1 : GoodM wide rows) (g2 : GoodM wide us) (hl : us.length = rows.length) (G : GH) : m_either_mask [mk wide rows, mk wide us] G = .ok (mk wide (List.zipWith (opN 1) rows us)) (G ++ [.lst [mk wide rows, mk wide us]]) :=
  mDef_ok [some (mk wide rows), some (mk wide us), none, none] (zipped _ (opN 1) (fun a b w1 w2 G => by simp [bor_nat, opN]) g1 g2 hl G)
theorem one_eq (g1 : GoodM wide rows) (g2 : GoodM wide us) (hl : us.length = rows.length) (G : GH) : m_one_mask [mk wide rows, mk wide us] G = .ok (mk wide (List.zipWith (opN 2) rows us)) (G ++ [.lst [mk wide rows, mk wide us]]) :=
  mDef_ok [some (mk wide rows), some (mk wide us), none, none] (zipped _ (opN 2) (fun a b w1 w2 G => by simp [bxor_nat, opN]) g1 g2 hl G)
theorem less_eq (g1 : GoodM wide rows) (g2 : GoodM wide us) (hl : us.length = rows.length) (G : GH) : m_less_mask [mk wide rows, mk wide us] G = .ok (mk wide (List.zipWith (opN 3) rows us)) (G ++ [.lst [mk wide rows, mk wide us]]) :=
  mDef_ok [some (mk wide rows), some (mk wide us), none, none] (zipped _ (opN 3) (fun a b w1 w2 G => by simp [band_nat, bxor_nat, opN]) g1 g2 hl G)
end
end Lk06
set_option Elab.async false
set_option linter.all false
set_option maxRecDepth 100000
set_option maxHeartbeats 4000000
namespace Lk06
open PySem PySem.Spec PyProof.Rows L2 Sy
/-! what is no mask -/
def Bad (G : GH) (w : W) : Prop := ∀ xs, m_is_mask [w] (G ++ xs) = .ok (.bl false) (G ++ xs)
theorem Bad.mono {G : GH} {w : W} (h : Bad G w) (xs : GH) : Bad (G ++ xs) w := fun ys => by
  rw [List.append_assoc]; exact h _
theorem bad_type {G : GH} {w : W} {a : String} (h : tyOf G (.val w) = some a) (ha : subTy a "tuple" = some false) : m_is_mask [w] G = .ok (.bl false) G := by
  refine mDef_ok [some w, none] ?_
  unfold b_is_mask
  rw [seq_yes (G1 := G) (by simp [isi_of h ha])]
  simp
theorem bad_len {G : GH} {ws : List W} (h : ws.length ≠ 2) : m_is_mask [.tup ws] G = .ok (.bl false) G := by
  refine mDef_ok [some (.tup ws), none] ?_
  unfold b_is_mask
  have : ¬ ((ws.length : Int) = 2) := by omega
  rw [seq_yes (G1 := G) (by simp [this])]
  simp
theorem bad_wide {G : GH} {u v : W} (hu : okW G u) (h : amongW 1 24 u = false) : m_is_mask [.tup [u, v]] G = .ok (.bl false) G := by
  refine mDef_ok [some (.tup [u, v]), none] ?_
  unfold b_is_mask
  have e := among_eq hu 1 24
  rw [h] at e
  rw [seq_yes (G1 := G) (by simp [e])]
  simp
theorem wide_ok {wide : Nat} (w0 : 0 < wide) (w1 : wide ≤ 24) (G : GH) : m_is_among [.int wide, .int 1, .int 24] G = .ok (.bl true) G := by
  have e1 := among_eq (okW_int G wide) 1 24
  rw [show amongW 1 24 (.int wide) = true by simp [amongW]; omega] at e1
  exact e1
theorem bad_rows {G : GH} {wide : Nat} {v : W} {a : String} (w0 : 0 < wide) (w1 : wide ≤ 24) (h : tyOf G (.val v) = some a) (ha : subTy a "tuple" = some false) : m_is_mask [.tup [.int wide, v]] G = .ok (.bl false) G := by
  refine mDef_ok [some (.tup [.int wide, v]), none] ?_
  unfold b_is_mask
  have e := wide_ok w0 w1 G
  rw [seq_no (G1 := G) (by simp [e])]
  rw [seq_yes (G1 := G) (by simp [isi_of h ha])]
  simp
theorem bad_high {G : GH} {wide : Nat} {ws : List W} (w0 : 0 < wide) (w1 : wide ≤ 24) (h : ws.length = 0 ∨ 24 < ws.length) : m_is_mask [.tup [.int wide, .tup ws]] G = .ok (.bl false) G := by
  refine mDef_ok [some (.tup [.int wide, .tup ws]), none] ?_
  unfold b_is_mask
  have e := wide_ok w0 w1 G
  rw [seq_no (G1 := G) (by simp [e])]
  rw [seq_yes (G1 := G) (by
    by_cases h1 : (1 : Int) ≤ ws.length
    · have h2 : ¬ (ws.length : Int) ≤ 24 := by omega
      simp [h1, h2]
    · simp [h1])]
  simp
theorem bad_cell {G : GH} {wide : Nat} {ws : List W} (w0 : 0 < wide) (w1 : wide ≤ 24) (h0 : 0 < ws.length) (h1 : ws.length ≤ 24) (hok : ∀ w ∈ ws, okW G w) (h : ws.all (amongW 0 (pw wide - 1)) = false) : m_is_mask [.tup [.int wide, .tup ws]] G = .ok (.bl false) G := by
  refine mDef_ok [some (.tup [.int wide, .tup ws]), none] ?_
  unfold b_is_mask
  have e := wide_ok w0 w1 G
  have i1 : (1 : Int) ≤ ws.length := by omega
  have i2 : (ws.length : Int) ≤ 24 := by omega
  rw [seq_no (G1 := G) (by simp [e])]
  rw [seq_no (G1 := G) (by simp [i1, i2])]
  have hs := shl_one wide (by omega)
  have hc : compF [] (gN 1) mYes (mCall m_is_among [] (mCons (mVar 1) (mCons (mC (.int 0)) (mCons (mBin fSub (mBin fShl (mC (.int 1)) (mBin fIx (mVar 0) (mC (.int 0)))) (mC (.int 1))) mNil)))) [some (.tup [.int wide, .tup ws]), none] ws G = .ok (ws.map (W.bl ∘ amongW 0 (pw wide - 1))) G := by
    refine compF_map (W.bl ∘ amongW 0 (pw wide - 1)) still_nil fun w hw => ⟨_, rfl, rfl, ?_⟩
    have e2 := among_eq (hok w hw) 0 (pw wide - 1)
    simp [hs, e2]
  have hall := fAll_tmp (ws.map (amongW 0 (pw wide - 1))) G
  rw [List.map_map] at hall
  have e3 : (ws.map (amongW 0 (pw wide - 1))).all id = false := by
    rw [List.all_map]; exact h
  rw [e3] at hall
  generalize ws.map (W.bl ∘ amongW 0 (pw wide - 1)) = L at *
  simp [mComp_at, miA_at, wipeS, show ws.length ≤ 16777216 by omega, hc, hall]
open N7 N6 N5
/-! the full mask, and what a mask lacks -/
abbrev fullR (wide high : Nat) : List Nat := List.replicate high (2 ^ wide - 1)
theorem full_good {wide high : Nat} (w0 : 0 < wide) (w1 : wide ≤ 24) (h0 : 0 < high) (h1 : high ≤ 24) : GoodM wide (fullR wide high) :=
  ⟨w0, w1, by simpa using h0, by simpa using h1, fun r hr => by
    rw [(List.mem_replicate.mp hr).2]
    have : 0 < 2 ^ wide := Nat.pow_pos (by decide)
    omega⟩
theorem rep_one (w : W) (k : Nat) : repW [w] k = List.replicate k w := by
  unfold repW
  induction k with
  | zero => rfl
  | succ n ih => rw [List.replicate_succ, List.flatten_cons, ih, List.replicate_succ]; rfl
theorem fMul_one {w : W} {k : Nat} (h0 : 0 < k) (h1 : k ≤ 1000) (G : GH) : fMul (.val (.tup [w])) (.val (.int k)) G = .ok (.val (.tup (List.replicate k w))) G := by
  unfold fMul
  by_cases h : k = 1
  · subst h
    rfl
  · have : ¬ ((k : Int) = 1) := by omega
    simp only [if_neg this]
    simp [show (2 : Int) ≤ k by omega, show (k : Int) ≤ 1000 by omega, rep_one]
theorem pw_pred (wide : Nat) : pw wide - 1 = ((2 ^ wide - 1 : Nat) : Int) := by
  unfold pw
  have : 0 < 2 ^ wide := Nat.pow_pos (by decide)
  omega
theorem need_sides_eq {wide high : Nat} (w0 : 0 < wide) (w1 : wide ≤ 24) (h0 : 0 < high) (h1 : high ≤ 24) (G : GH) : m_need_sides [.int wide, .int high] G = .ok .non G := by
  refine mDef_nx [some (.int wide), some (.int high)] (τ1 := [some (.int wide), some (.int high)]) ?_
  unfold b_need_sides
  have e1 := wide_ok w0 w1 G
  have e2 := wide_ok h0 h1 G
  exact if_no (by simp [e1, e2])
theorem full_eq {wide high : Nat} (w0 : 0 < wide) (w1 : wide ≤ 24) (h0 : 0 < high) (h1 : high ≤ 24) (G : GH) : m_full_mask [.int wide, .int high] G = .ok (mk wide (fullR wide high)) G := by
  refine mDef_ok [some (.int wide), some (.int high)] ?_
  unfold b_full_mask
  rw [seq_nx (τ1 := [some (.int wide), some (.int high)]) (G1 := G) (by simp [need_sides_eq w0 w1 h0 h1])]
  have e1 := shl_one wide (by omega) G
  have e2 := fMul_one (w := .int (pw wide - 1)) (k := high) h0 (by omega) G
  have e3 : List.replicate high (W.int (pw wide - 1)) = nW (fullR wide high) := by
    unfold nW fullR
    rw [List.map_replicate, pw_pred]
  rw [e3] at e2
  unfold mk
  generalize nW (fullR wide high) = ws at *
  generalize pw wide = p at *
  simp [e1, e2]
theorem other_mask_eq {wide : Nat} {rows : List Nat} (g : GoodM wide rows) (G : GH) : ∃ xs, m_other_mask [mk wide rows] G = .ok (mk wide (List.zipWith (opN 2) rows (fullR wide rows.length))) (G ++ xs) := by
  refine ⟨[GO.lst [mk wide rows]] ++ [GO.lst [mk wide rows, mk wide (fullR wide rows.length)]], mDef_ok [some (mk wide rows)] ?_⟩
  · unfold b_other_mask
    have hn := need_masks_good (G := G ++ [.lst [mk wide rows]]) (n := G.length) (wide := wide) (rows0 := rows) (ms := [rows]) (by simp) rfl (by
      intro r hr
      simp at hr
      subst hr
      exact ⟨g, rfl⟩)
    rw [seq_nx (τ1 := [some (mk wide rows)]) (G1 := G ++ [.lst [mk wide rows]]) (by
      generalize mk wide rows = m at *
      simp [hn])]
    have e1 := full_eq g.w0 g.w1 g.h0 g.h1 (G ++ [.lst [mk wide rows]])
    have e2 := one_eq g (full_good g.w0 g.w1 g.h0 g.h1) (by simp) (G ++ [.lst [mk wide rows]])
    generalize hG1 : G ++ [GO.lst [mk wide rows]] = G1 at *
    have i1 : fIx (.val (mk wide rows)) (.val (.int 0)) G1 = .ok (.val (.int wide)) G1 := rfl
    have i2 : fIx (.val (mk wide rows)) (.val (.int 1)) G1 = .ok (.val (.tup (nW rows))) G1 := rfl
    have i3 : fLen [.val (.tup (nW rows))] G1 = .ok (.val (.int rows.length)) G1 := by simp
    generalize mk wide (List.zipWith (opN 2) rows (fullR wide rows.length)) = r at *
    generalize mk wide (fullR wide rows.length) = f at *
    generalize mk wide rows = m at *
    generalize nW rows = ws at *
    rw [show G ++ ([GO.lst [m]] ++ [GO.lst [m, f]]) = G1 ++ [GO.lst [m, f]] by rw [← List.append_assoc, hG1]]
    simp [i1, i2, i3, e1, e2]
/-! how many cells, and which -/
theorem rowB_len (wide y r : Nat) : (rowP wide y r).length = (plB wide r).length := by
  unfold rowP plB
  rw [List.length_map]
theorem placesP_sum (wide : Nat) (rows : List Nat) : ∀ k, k ≤ rows.length → (placesP wide rows k).length = ((rows.take k).map fun r => (plB wide r).length).sum := by
  intro k
  induction k with
  | zero => intro _; simp [placesP]
  | succ k ih =>
    intro hk
    rw [placesP_succ, List.length_append, ih (by omega), rowB_len, List.take_succ, List.map_append, List.sum_append, List.getElem?_eq_getElem (by omega : k < rows.length)]
    simp [List.getD_eq_getElem?_getD, show k < rows.length by omega]
theorem plW_wide {wide r : Nat} (w1 : wide ≤ 24) (h : r < 2 ^ wide) : plW 101 r = plW wide r := plW_eq h (by omega)
theorem lt101 {wide r : Nat} (w1 : wide ≤ 24) (h : r < 2 ^ wide) : r < 2 ^ 101 := Nat.lt_of_lt_of_le h (Nat.pow_le_pow_right (by decide) (by omega))
theorem sum_cast (ns : List Nat) : (ns.map fun (n : Nat) => (n : Int)).sum = (ns.sum : Nat) := by
  induction ns with
  | nil => rfl
  | cons n ns ih => rw [List.map_cons, List.sum_cons, ih, List.sum_cons]; omega
theorem many_mask_eq {wide : Nat} {rows : List Nat} (g : GoodM wide rows) (G : GH) : m_many_in_mask [mk wide rows] G = .ok (.int (placesP wide rows rows.length).length) (G ++ [.lst [mk wide rows]]) := by
  refine mDef_ok [some (mk wide rows), none] ?_
  unfold b_many_in_mask
  have hn := need_masks_good (G := G ++ [.lst [mk wide rows]]) (n := G.length) (wide := wide) (rows0 := rows) (ms := [rows]) (by simp) rfl (by
    intro r hr
    simp at hr
    subst hr
    exact ⟨g, rfl⟩)
  rw [seq_nx (τ1 := [some (mk wide rows), none]) (G1 := G ++ [.lst [mk wide rows]]) (by
    generalize mk wide rows = m at *
    simp [hn])]
  generalize G ++ [GO.lst [mk wide rows]] = G1
  have hc : compF [] (gN 1) mYes (mCall m_many_bits [] (mCons (mVar 1) mNil)) [some (mk wide rows), none] (nW rows) G1 = .ok ((rows.map fun r => (plB wide r).length).map fun (n : Nat) => W.int n) G1 := by
    rw [List.map_map]
    refine compF_paired (F := fun r => W.int ((plB wide r).length : Nat)) still_nil ?_
    refine paired_map ?_
    refine paired_of rfl fun i x y e1 e2 => ?_
    rw [e1] at e2
    cases e2
    have hx := g.row x (List.mem_of_getElem? e1)
    have e := many_eq (lt101 g.w1 hx) G1
    rw [plW_wide g.w1 hx, show (plW wide x).length = (plB wide x).length by simp [plW]] at e
    refine ⟨_, rfl, rfl, ?_⟩
    generalize mk wide rows = m at *
    simp [e]
  have hsum := fSum_tmp ((rows.map fun r => (plB wide r).length).map fun (n : Nat) => (n : Int)) G1
  have hp := placesP_sum wide rows rows.length (Nat.le_refl _)
  rw [List.take_length] at hp
  rw [sum_cast, ← hp, List.map_map] at hsum
  rw [show ((rows.map fun r => (plB wide r).length).map (W.int ∘ fun (n : Nat) => (n : Int))) = ((rows.map fun r => (plB wide r).length).map fun (n : Nat) => W.int n) from rfl] at hsum
  have hl : (nW rows).length ≤ 16777216 := by simp; have := g.h1; omega
  have i2 : fIx (.val (mk wide rows)) (.val (.int 1)) G1 = .ok (.val (.tup (nW rows))) G1 := rfl
  have it : iterA (.val (.tup (nW rows))) G1 = .ok (nW rows, []) G1 := rfl
  generalize ((rows.map fun r => (plB wide r).length).map fun (n : Nat) => W.int n) = vs at *
  generalize mk wide rows = m at *
  generalize nW rows = ws at *
  simp [mComp_at, miA_at, wipeS, hl, hc, i2, it, hsum]
theorem fExt_loc {G : GH} {n : Nat} {us ws : List W} (h : G[n]? = some (.lst us)) (hl : us.length + ws.length ≤ 16777216) : fExt (.val (.loc n)) [.tmp ws] G = .ok (.val .non) (G.set n (.lst (us ++ ws))) := by
  unfold fExt
  simp [h, hl]
theorem cells_eq {wide : Nat} {rows : List Nat} (g : GoodM wide rows) (G : GH) : ∃ xs, m_cells_in_mask [mk wide rows] G = .ok (.loc (G.length + 1)) (G ++ [.lst [mk wide rows], .lst (pW (placesP wide rows rows.length))] ++ xs) := by
  suffices h : ∃ xs, b_cells_in_mask [some (mk wide rows), none, none, none, none] G = .rt (.loc (G.length + 1)) (G ++ [.lst [mk wide rows], .lst (pW (placesP wide rows rows.length))] ++ xs) by
    obtain ⟨xs, h⟩ := h
    exact ⟨xs, mDef_ok _ h⟩
  unfold b_cells_in_mask
  have hn := need_masks_good (G := G ++ [.lst [mk wide rows]]) (n := G.length) (wide := wide) (rows0 := rows) (ms := [rows]) (by simp) rfl (by
    intro r hr
    simp at hr
    subst hr
    exact ⟨g, rfl⟩)
  rw [seq_nx (τ1 := [some (mk wide rows), none, none, none, none]) (G1 := G ++ [.lst [mk wide rows]]) (by
    generalize mk wide rows = m at *
    simp [hn])]
  rw [seq_nx (τ1 := [some (mk wide rows), some (.loc (G.length + 1)), none, none, none]) (G1 := G ++ [.lst [mk wide rows], .lst []]) (by
    generalize mk wide rows = m at *
    simp)]
  have hmi : miB iterE (mConsT (mBin fIx (mVar 0) (mC (.int 1))) mNilT) [some (mk wide rows), some (.loc (G.length + 1)), none, none, none] (G ++ [.lst [mk wide rows], .lst []]) = .ok (enumW (nW rows), []) (G ++ [.lst [mk wide rows], .lst []]) := by
    have i2 : ∀ G1, fIx (.val (mk wide rows)) (.val (.int 1)) G1 = .ok (.val (.tup (nW rows))) G1 := fun _ => rfl
    have it : ∀ G1, iterE [.val (.tup (nW rows))] G1 = .ok (enumW (nW rows), []) G1 := fun _ => rfl
    generalize enumW (nW rows) = es at *
    generalize mk wide rows = m at *
    simp [miB_at, i2, it]
  rw [sSeq_at, sFor_at, hmi, R.toS_ok]
  generalize hM : mk wide rows = m at *
  refine forL_run (I := fun i τ G' => ∃ s2 s3 s4 xs, τ = [some m, some (.loc (G.length + 1)), s2, s3, s4] ∧ G' = G ++ [.lst [m], .lst (pW (placesP wide rows i))] ++ xs) (E := fun r => ∃ xs, r.andThen (sRet (mVar 1)) = .rt (.loc (G.length + 1)) (G ++ [.lst [m], .lst (pW (placesP wide rows rows.length))] ++ xs)) (src := []) (ws := enumW (nW rows))
    (τ := [some m, some (.loc (G.length + 1)), none, none, none]) (G := G ++ [.lst [m], .lst []]) ⟨_, _, _, [], rfl, by simp [placesP]⟩ ?_ ?_
  · rintro y w τ G' hw ⟨s2, s3, s4, xs, rfl, rfl⟩
    unfold enumW nW at hw
    rw [List.getElem?_map, List.getElem?_zipIdx, List.getElem?_map] at hw
    cases er : rows[y]? with
    | none => rw [er] at hw; cases hw
    | some r =>
      rw [er] at hw
      have hw' : W.tup [.int ((0 + y : Nat) : Int), .int (r : Nat)] = w := by simpa using hw
      rw [Nat.zero_add] at hw'
      subst hw'
      refine ⟨still_nil, _, rfl, ?_⟩
      have hr := g.row r (List.mem_of_getElem? er)
      have hy : y < rows.length := (List.getElem?_eq_some_iff.mp er).1
      have hsucc : placesP wide rows (y + 1) = placesP wide rows y ++ rowP wide y r := by
        rw [placesP_succ, List.getD_eq_getElem?_getD, er]
        rfl
      have hpl := placesP_len wide rows y
      have hwy : wide * y ≤ 24 * 24 := Nat.mul_le_mul g.w1 (by have := g.h1; omega)
      rw [hsucc]
      generalize placesP wide rows y = P at *
      have hb := bplaces_eq (lt101 g.w1 hr) (G ++ [.lst [m], .lst (pW P)] ++ xs)
      rw [plW_wide g.w1 hr] at hb
      generalize hG1 : G ++ [GO.lst [m], GO.lst (pW P)] ++ xs = G1 at *
      have hpl2 : (plW wide r).length ≤ 24 := Nat.le_trans (plW_len wide r) g.w1
      have hc : compF [(G1.length, plW wide r)] (gN 4) mYes (mTup (mCons (mVar 4) (mCons (mVar 3) mNil))) [some m, some (.loc (G.length + 1)), some (.int (r : Nat)), some (.int y), none] (plW wide r) (G1 ++ [.lst (plW wide r)]) = .ok (pW (rowP wide y r)) (G1 ++ [.lst (plW wide r)]) := by
        have hst : still [(G1.length, plW wide r)] (G1 ++ [.lst (plW wide r)]) = true := still_of (by simp)
        rw [show pW (rowP wide y r) = (plB wide r).map fun (x : Nat) => W.tup [.int x, .int y] by
          unfold pW rowP plB
          rw [List.map_map]
          rfl]
        generalize G1 ++ [GO.lst (plW wide r)] = G2 at *
        generalize hpw : plW wide r = ws at hst ⊢
        rw [← hpw]
        refine compF_paired (F := fun (x : Nat) => W.tup [.int x, .int y]) (by rw [hpw]; exact hst) ?_
        unfold plW
        refine paired_map ?_
        refine paired_of rfl fun i x y' e1 e2 => ?_
        rw [e1] at e2
        cases e2
        exact ⟨_, rfl, rfl, by simp⟩
      have hx : fExt (.val (.loc (G.length + 1))) [.tmp (pW (rowP wide y r))] (G1 ++ [.lst (plW wide r)]) = .ok (.val .non) (G ++ [.lst [m], .lst (pW (P ++ rowP wide y r))] ++ (xs ++ [.lst (plW wide r)])) := by
        have hrl := rowP_len wide y r
        have hw1 := g.w1
        rw [fExt_loc (us := pW P) (by rw [← hG1]; simp) (by simp; omega), ← hG1]
        simp
      have hi : isLst (.val (.loc (G.length + 1))) G1 = true := isLst_ok (us := pW P) (by rw [← hG1]; simp)
      have hia : iterA (.val (.loc G1.length)) (G1 ++ [.lst (plW wide r)]) = .ok (plW wide r, [(G1.length, plW wide r)]) (G1 ++ [.lst (plW wide r)]) := iterA_at (by simp)
      show Turn _ _ (sDrop _ [some m, some (.loc (G.length + 1)), some (.int (r : Nat)), some (.int y), s4] G1)
      generalize pW (rowP wide y r) = pr at *
      generalize plW wide r = pl at *
      generalize hX : G ++ [GO.lst [m], GO.lst (pW (P ++ rowP wide y r))] ++ (xs ++ [GO.lst pl]) = G3 at *
      have : (sDrop (mMt isLst fExt (mVar 1) (mConsT (mComp (miA (mCall m_places_of_bits [] (mCons (mVar 2) mNil))) (gN 4) mYes (mTup (mCons (mVar 4) (mCons (mVar 3) mNil))) [4]) mNilT))) [some m, some (.loc (G.length + 1)), some (.int (r : Nat)), some (.int y), s4] G1 = .nx [some m, some (.loc (G.length + 1)), some (.int (r : Nat)), some (.int y), s4] G3 := by
        simp [hi, hb, mComp_at, miA_at, hia, wipeS, hc, hx, show pl.length ≤ 16777216 by omega]
      rw [this]
      exact ⟨_, _, _, xs ++ [.lst pl], rfl, hX.symm⟩
  · rintro τ G' ⟨s2, s3, s4, xs, rfl, rfl⟩
    refine ⟨still_nil, xs, ?_⟩
    rw [show (enumW (nW rows)).length = rows.length by unfold enumW; simp]
    rfl
end Lk06
set_option Elab.async false
set_option linter.all false
set_option maxRecDepth 100000
set_option maxHeartbeats 4000000
namespace Lk06
open PySem PySem.Spec PyProof.Rows L2 Sy
open N7
/-! lists of places -/
abbrev pairD (p : Nat × Nat) : PyData := .tuple [.int (p.1 : Nat), .int (p.2 : Nat)]
theorem mapO_pairs (n : Nat) (G : GH) (ps : Pl) : mapO (toD (n + 2) G) (pW ps) = some (ps.map pairD) := by
  induction ps with
  | nil => rfl
  | cons p ps ih =>
    unfold pW mapO
    rw [List.map_cons]
    have : toD (n + 2) G (.tup [.int (p.1 : Nat), .int (p.2 : Nat)]) = some (pairD p) := rfl
    simp only [this, ih]
    rfl
theorem toDT_locP {G : GH} {n : Nat} {ps : Pl} (h : G[n]? = some (.lst (pW ps))) : toDT G (.val (.loc n)) = some (.list (ps.map pairD)) := by
  have e : mapO (toD 8 G) (pW ps) = some (ps.map pairD) := mapO_pairs 6 G ps
  unfold toDT toD
  generalize pW ps = ws at *
  simp [h, e]
theorem pair_inj {p q : Nat × Nat} : pairD p = pairD q ↔ p = q := by
  obtain ⟨a, b⟩ := p
  obtain ⟨c, d⟩ := q
  simp [pairD]
  omega
theorem eqv_pair (p q : Nat × Nat) : PyData.eqv (pairD p) (pairD q) = decide (p = q) := by
  rw [eqv_dec (by rfl) (by rfl)]
  exact decide_eq_decide.mpr pair_inj
theorem any_pairs (ps : Pl) (p : Nat × Nat) : ((ps.map pairD).any fun z => PyData.eqv z (pairD p)) = decide (p ∈ ps) := by
  induction ps with
  | nil => simp
  | cons q ps ih =>
    rw [List.map_cons, List.any_cons, ih, eqv_pair]
    by_cases h : p = q
    · subst h; simp
    · have h2 : ¬ q = p := fun e => h e.symm
      simp [h, h2]
theorem toDT_pair (p : Nat × Nat) (G : GH) : toDT G (.val (.tup [.int (p.1 : Nat), .int (p.2 : Nat)])) = some (pairD p) := rfl
theorem fIn_pairs {G : GH} {n : Nat} {ps : Pl} (p : Nat × Nat) (h : G[n]? = some (.lst (pW ps))) : fIn (.val (.tup [.int (p.1 : Nat), .int (p.2 : Nat)])) (.val (.loc n)) G = .ok (.val (.bl (decide (p ∈ ps)))) G := by
  unfold fIn inB
  simp only [toDT_pair, toDT_locP h, any_pairs]
theorem fNotIn_pairs {G : GH} {n : Nat} {ps : Pl} (p : Nat × Nat) (h : G[n]? = some (.lst (pW ps))) : fNotIn (.val (.tup [.int (p.1 : Nat), .int (p.2 : Nat)])) (.val (.loc n)) G = .ok (.val (.bl (!decide (p ∈ ps)))) G := by
  unfold fNotIn inB
  simp only [toDT_pair, toDT_locP h, any_pairs]
theorem noDict_pairs (ps : Pl) : noDict (.list (ps.map pairD)) = true := by
  have : noDictA (ps.map pairD) = true := by
    induction ps with
    | nil => rfl
    | cons p ps ih => rw [List.map_cons, noDictA, ih]; rfl
  simp [noDict, this]
theorem ne_pairs {G : GH} {n m : Nat} {ps : Pl} (h : G[n]? = some (.lst (pW ps))) (h2 : G[m]? = some (.lst (pW ps))) : fNe (.val (.loc n)) (.val (.loc m)) G = .ok (.val (.bl false)) G := ne_same (toDT_locP h) (toDT_locP h2) (noDict_pairs ps)
/-- a comprehension with a test, over things that are told by others -/
theorem compF_filterP {β : Type} {src : Src} {g : MG} {c : M Bool} {e : M T} {τ : Sl} {G : GH} {ws : List W} {ys : List β} (p : β → Bool) (F : β → W) (hs : still src G = true)
    (hp : Paired (fun w y => ∃ τ1, g w τ = some τ1 ∧ c τ1 G = .ok (p y) G ∧ (p y = true → (e τ1 G).bind force = .ok (F y) G)) ws ys) : compF src g c e τ ws G = .ok ((ys.filter p).map F) G := by
  induction hp with
  | nil => unfold compF; rw [hs]; rfl
  | @cons w y ws ys q t ih =>
    obtain ⟨τ1, h1, h2, h3⟩ := q
    unfold compF
    rw [hs, h1]
    cases e : p y with
    | true =>
      have h3' : mF _ τ1 G = .ok (F y) G := h3 e
      rw [List.filter_cons, e]
      simp only [if_true, h2, e, R.noEx, R.bind_ok, h3', ih]
      rfl
    | false =>
      rw [List.filter_cons, e]
      simp only [if_true, h2, e, R.noEx, R.bind_ok, ih]
      rfl
theorem pW_filter (ps : Pl) (p : Nat × Nat → Bool) : ((ps.filter p).map fun p => W.tup [.int (p.1 : Nat), .int (p.2 : Nat)]) = pW (ps.filter p) := rfl
theorem pW_app (ps qs : Pl) : pW ps ++ pW qs = pW (ps ++ qs) := by simp
theorem fPow_30 (G : GH) : fPow (.val (.int 10)) (.val (.int 30)) G = .ok (.val (.int (10 ^ 30))) G := rfl
theorem odd_row (wide : Nat) (w1 : wide ≤ 24) (z : Int) : ∃ w, (∀ G, okW G w) ∧ amongW 0 (pw wide - 1) w = false ∧ ∀ G, fIx (.tmp [.int (pw wide), .int (-1), .bl true, .non, .str "0", .tup [.int 0], .int (10 ^ 30), .bl false]) (.val (.int (z % 8))) G = .ok (.val w) G := by
  obtain ⟨n, hn, hl⟩ := mod_nat z (m := 8) (by decide)
  have e : z % 8 = n := hn
  rw [e]
  have hp : pw wide ≤ 16777216 := by
    have := pow_le24 w1
    unfold pw
    omega
  have : n = 0 ∨ n = 1 ∨ n = 2 ∨ n = 3 ∨ n = 4 ∨ n = 5 ∨ n = 6 ∨ n = 7 := by omega
  rcases this with rfl | rfl | rfl | rfl | rfl | rfl | rfl | rfl
  · refine ⟨_, fun G => rfl, ?_, fun G => fIx_tmp (k := 0) rfl⟩
    simp only [amongW, Bool.and_eq_false_iff, decide_eq_false_iff_not]
    omega
  · exact ⟨_, fun G => rfl, rfl, fun G => fIx_tmp (k := 1) rfl⟩
  · exact ⟨_, fun G => rfl, rfl, fun G => fIx_tmp (k := 2) rfl⟩
  · exact ⟨_, fun G => rfl, rfl, fun G => fIx_tmp (k := 3) rfl⟩
  · exact ⟨_, fun G => rfl, rfl, fun G => fIx_tmp (k := 4) rfl⟩
  · exact ⟨_, fun G => rfl, rfl, fun G => fIx_tmp (k := 5) rfl⟩
  · refine ⟨_, fun G => rfl, ?_, fun G => fIx_tmp (k := 6) rfl⟩
    simp only [amongW, Bool.and_eq_false_iff, decide_eq_false_iff_not]
    right
    have : (16777216 : Int) < 10 ^ 30 := by decide
    omega
  · exact ⟨_, fun G => rfl, rfl, fun G => fIx_tmp (k := 7) rfl⟩
theorem rep25 : repW [W.int 0] 25 = List.replicate 25 (.int 0) := rfl
theorem fMul_25 (G : GH) : fMul (.val (.tup [.int 0])) (.val (.int 25)) G = .ok (.val (.tup (List.replicate 25 (.int 0)))) G := rfl
theorem fAdd_tup (xs ys : List W) (G : GH) (h : xs.length + ys.length ≤ 16777216) : fAdd (.val (.tup xs)) (.val (.tup ys)) G = .ok (.val (.tup (xs ++ ys))) G := by
  unfold fAdd
  simp only [h, if_true]
theorem fSl_tup (ws : List W) (lo hi : Option Int) (G : GH) : fSl (.val (.tup ws)) lo hi G = .ok (.val (.tup (cutW ws lo hi))) G := rfl
theorem fAdd_locT {G : GH} {L : Nat} {ws us : List W} (h : G[L]? = some (.lst ws)) (hl : ws.length + us.length ≤ 16777216) : fAdd (.val (.loc L)) (.tmp us) G = .ok (.tmp (ws ++ us)) G := by
  unfold fAdd
  simp [h, hl]
theorem fStr_small (n : Nat) (h : n ≤ 1000) (G : GH) : fStr [.val (.int n)] G = .ok (.val (.str (toString (n : Int)))) G := by
  unfold fStr
  have : (n : Int).natAbs.log2 < 1920 := by
    show n.log2 < 1920
    by_cases h0 : n = 0
    · subst h0; decide
    · have h2 : n < 2 ^ 10 := by omega
      have := (Nat.log2_lt h0).mpr h2
      omega
  simp only [this, if_true]
@[simp] theorem fList_tup (ws : List W) (G : GH) : fList [.val (.tup ws)] G = .ok (.tmp ws) G := (rfl)
theorem wrong_eq {wide : Nat} {rows : List Nat} (g : GoodM wide rows) (r : Nat) (G : GH) : ∃ w xs, m_law_wrong_mask [.int r, mk wide rows] G = .ok w (G ++ xs) ∧ Bad (G ++ xs) w := by
  have w0 := g.w0
  have w1 := g.w1
  have h0 := g.h0
  have h1 := g.h1
  obtain ⟨y, hy, hyl⟩ := mod_nat ((r : Int) / 20) (m := rows.length) h0
  obtain ⟨odd, hok, hodd, hox⟩ := odd_row wide w1 ((r : Int) / 500)
  obtain ⟨R0, hR0⟩ : ∃ R0, R0 = nW rows := ⟨_, rfl⟩
  have hRl : R0.length = rows.length := by rw [hR0]; simp
  obtain ⟨A, hA⟩ : ∃ A : W, A = .tup [.int wide, .tup (R0.take y ++ [odd] ++ R0.drop (y + 1))] := ⟨_, rfl⟩
  -- the list, in three steps
  obtain ⟨S1, hS1⟩ : ∃ S1 : List W, S1 = [A, .tup [.int wide, .loc G.length], .loc (G.length + 1), .tup [.int wide], .tup [.int wide, .tup R0, .int 0]] := ⟨_, rfl⟩
  obtain ⟨S2, hS2⟩ : ∃ S2 : List W, S2 = S1 ++ [.tup [.int 0, .tup R0], .tup [.int 25, .tup R0], .tup [.bl true, .tup [.int 0]], .tup [.non, .tup R0], .tup [.int wide, .tup []], .tup [.int wide, .tup (List.replicate 25 (.int 0))]] := ⟨_, rfl⟩
  obtain ⟨S3, hS3⟩ : ∃ S3 : List W, S3 = S2 ++ [.tup [.str (toString (wide : Int)), .tup R0], .non, .tup [], .int 5, .str "mask", .loc (G.length + 4), A, A, A] := ⟨_, rfl⟩
  have hlen1 : S1.length = 5 := by rw [hS1]; rfl
  have hlen2 : S2.length = 11 := by rw [hS2, List.length_append, hlen1]; rfl
  have hlen3 : S3.length = 20 := by rw [hS3, List.length_append, hlen2]; rfl
  obtain ⟨k, hk, hk20⟩ := mod_nat (r : Int) (m := 20) (by decide)
  have hk' : (r : Int) % 20 = k := hk
  have hget : S3[k]? = some S3[k] := List.getElem?_eq_getElem (by omega)
  obtain ⟨H, hH⟩ : ∃ H : GH, H = G ++ [.lst R0, .lst [.int wide, .tup R0], .lst S1, .lst S2, .dK [], .lst S3] := ⟨_, rfl⟩
  refine ⟨S3[k], [.lst R0, .lst [.int wide, .tup R0], .lst S1, .lst S2, .dK [], .lst S3], mDef_ok [some (.int r), some (mk wide rows), none, none, none, none, none, none] ?_, ?_⟩
  · unfold b_law_wrong_mask
    have l20 : Nat.log2 20 < 9000 := by decide
    have l500 : Nat.log2 500 < 9000 := by decide
    have hp := power_pw wide (by omega)
    have hm := fMod_int (i := (r : Int) / 20) (j := (R0.length : Int)) (G := G) (by omega)
    rw [hRl, hy] at hm
    rw [seq_nx (τ1 := [some (.int r), some (mk wide rows), none, none, some (.tup R0), none, some (.int wide), none]) (G1 := G) (by rw [hR0]; simp [mk])]
    generalize mk wide rows = m at *
    rw [seq_nx (τ1 := [some (.int r), some m, none, none, some (.tup R0), none, some (.int wide), some (.int y)]) (G1 := G) (by simp [fFdiv_int, l20, hRl, hm])]
    rw [seq_nx (τ1 := [some (.int r), some m, some (.int (pw wide)), none, some (.tup R0), none, some (.int wide), some (.int y)]) (G1 := G) (by simp [hp])]
    have hox' := hox G
    generalize pw wide = F at *
    rw [seq_nx (τ1 := [some (.int r), some m, some (.int F), some odd, some (.tup R0), none, some (.int wide), some (.int y)]) (G1 := G) (by
      simp at hox'
      simp [fFdiv_int, fMod_int, l500, fPow_30, hox'])]
    have s1 := fSl_tup R0 none (some (y : Int))
    have s2 := fSl_tup R0 (some ((y + 1 : Nat) : Int)) none
    rw [cut_to] at s1
    rw [cut_from] at s2
    have s2' : ∀ G, fSl (.val (.tup R0)) (some ((y : Int) + 1)) none G = .ok (.val (.tup (R0.drop (y + 1)))) G := s2
    have a1 := fAdd_tup (R0.take y) [odd]
    have a2 := fAdd_tup (R0.take y ++ [odd]) (R0.drop (y + 1))
    have q1 : (R0.take y).length + [odd].length ≤ 16777216 := by rw [List.length_take]; simp; omega
    have q2 : (R0.take y ++ [odd]).length + (R0.drop (y + 1)).length ≤ 16777216 := by rw [List.length_append, List.length_take, List.length_drop]; simp; omega
    have a1' := fun G => a1 G q1
    have a2' := fun G => a2 G q2
    rw [seq_nx (τ1 := [some (.int r), some m, some (.int F), some odd, some (.tup R0), some (.loc (G.length + 2)), some (.int wide), some (.int y)]) (G1 := G ++ [.lst R0, .lst [.int wide, .tup R0], .lst S1]) (by
      rw [hS1, hA]
      generalize R0.take y ++ [odd] ++ R0.drop (y + 1) = Z at *
      generalize R0.take y ++ [odd] = Y at *
      generalize R0.take y = X at *
      generalize R0.drop (y + 1) = V at *
      simp [s1, s2', a1', a2'])]
    have b1 := fAdd_locT (G := G ++ [.lst R0, .lst [.int wide, .tup R0], .lst S1]) (L := G.length + 2) (ws := S1) (us := [.tup [.int 0, .tup R0], .tup [.int 25, .tup R0], .tup [.bl true, .tup [.int 0]], .tup [.non, .tup R0], .tup [.int wide, .tup []], .tup [.int wide, .tup (List.replicate 25 (.int 0))]]) (by simp) (by simp [hlen1])
    rw [← hS2] at b1
    rw [seq_nx (τ1 := [some (.int r), some m, some (.int F), some odd, some (.tup R0), some (.loc (G.length + 3)), some (.int wide), some (.int y)]) (G1 := G ++ [.lst R0, .lst [.int wide, .tup R0], .lst S1, .lst S2]) (by
      have f25 := fMul_25
      generalize List.replicate 25 (W.int 0) = Z at *
      simp [f25, b1])]
    have c0 : fIx (.val (.loc (G.length + 3))) (.val (.int 0)) (G ++ [.lst R0, .lst [.int wide, .tup R0], .lst S1, .lst S2, .dK []]) = .ok (.val A) (G ++ [.lst R0, .lst [.int wide, .tup R0], .lst S1, .lst S2, .dK []]) := fIx_loc (k := 0) (ws := S2) (by simp) (by rw [hS2, hS1]; rfl)
    have c1 := fAdd_locT (G := G ++ [.lst R0, .lst [.int wide, .tup R0], .lst S1, .lst S2, .dK []]) (L := G.length + 3) (ws := S2) (us := [.tup [.str (toString (wide : Int)), .tup R0], .non, .tup [], .int 5, .str "mask", .loc (G.length + 4), A, A, A]) (by simp) (by simp [hlen2])
    rw [← hS3] at c1
    have c2 := fStr_small wide (by omega)
    generalize (toString (wide : Int) : Str) = sw at *
    rw [seq_nx (τ1 := [some (.int r), some m, some (.int F), some odd, some (.tup R0), some (.loc (G.length + 5)), some (.int wide), some (.int y)]) (G1 := G ++ [.lst R0, .lst [.int wide, .tup R0], .lst S1, .lst S2, .dK [], .lst S3]) (by
      simp [c2, c0, c1])]
    have c3 := fIx_loc (G := G ++ [.lst R0, .lst [.int wide, .tup R0], .lst S1, .lst S2, .dK [], .lst S3]) (n := G.length + 5) (ws := S3) (by simp) hget
    generalize S3[k] = u at *
    simp [fMod_int, hk', c3]
  · intro xs
    have g1 : (G ++ [GO.lst R0, .lst [.int wide, .tup R0], .lst S1, .lst S2, .dK [], .lst S3] ++ xs)[G.length]? = some (.lst R0) := get_mono (by simp) xs
    have g2 : (G ++ [GO.lst R0, .lst [.int wide, .tup R0], .lst S1, .lst S2, .dK [], .lst S3] ++ xs)[G.length + 1]? = some (.lst [.int wide, .tup R0]) := get_mono (by simp) xs
    have g3 : (G ++ [GO.lst R0, .lst [.int wide, .tup R0], .lst S1, .lst S2, .dK [], .lst S3] ++ xs)[G.length + 4]? = some (.dK []) := get_mono (by simp) xs
    generalize G ++ [GO.lst R0, .lst [.int wide, .tup R0], .lst S1, .lst S2, .dK [], .lst S3] ++ xs = G2 at *
    have hA' : m_is_mask [A] G2 = .ok (.bl false) G2 := by
      rw [hA]
      have hlA : (R0.take y ++ [odd] ++ R0.drop (y + 1)).length = rows.length := by
        rw [List.length_append, List.length_append, List.length_take, List.length_drop, hRl, List.length_singleton]
        omega
      refine bad_cell w0 w1 (by rw [hlA]; exact h0) (by rw [hlA]; exact h1) (fun w hw => ?_) ?_
      · rcases List.mem_append.mp hw with hw | hw
        · rcases List.mem_append.mp hw with hw | hw
          · have := List.mem_of_mem_take hw
            rw [hR0] at this
            obtain ⟨q, _, rfl⟩ := List.mem_map.mp this
            rfl
          · rw [List.mem_singleton] at hw
            rw [hw]
            exact hok _
        · have := List.mem_of_mem_drop hw
          rw [hR0] at this
          obtain ⟨q, _, rfl⟩ := List.mem_map.mp this
          rfl
      · rw [List.all_append, List.all_append, List.all_cons, hodd]
        simp
    have hS : ∀ u, S3[k]? = some u → m_is_mask [u] G2 = .ok (.bl false) G2 := by
      intro u hu
      rw [hS3, hS2, hS1] at hu
      have : k = 0 ∨ k = 1 ∨ k = 2 ∨ k = 3 ∨ k = 4 ∨ k = 5 ∨ k = 6 ∨ k = 7 ∨ k = 8 ∨ k = 9 ∨ k = 10 ∨ k = 11 ∨ k = 12 ∨ k = 13 ∨ k = 14 ∨ k = 15 ∨ k = 16 ∨ k = 17 ∨ k = 18 ∨ k = 19 := by omega
      clear hget hk hk' hlen1 hlen2 hlen3 hS1 hS2 hS3 hH
      rcases this with rfl | rfl | rfl | rfl | rfl | rfl | rfl | rfl | rfl | rfl | rfl | rfl | rfl | rfl | rfl | rfl | rfl | rfl | rfl | rfl <;> cases hu
      · exact hA'
      · exact bad_rows w0 w1 (tyOf_lst g1) (by decide)
      · exact bad_type (tyOf_lst g2) (by decide)
      · exact bad_len (by simp)
      · exact bad_len (by simp)
      · exact bad_wide rfl rfl
      · exact bad_wide rfl rfl
      · exact bad_wide rfl rfl
      · exact bad_wide rfl rfl
      · exact bad_high w0 w1 (.inl rfl)
      · exact bad_high w0 w1 (.inr (by simp))
      · exact bad_wide rfl rfl
      · exact bad_type (a := "NoneType") rfl (by decide)
      · exact bad_len (by simp)
      · exact bad_type (a := "int") rfl (by decide)
      · exact bad_type (a := "str") rfl (by decide)
      · exact bad_type (tyOf_dK g3) (by decide)
      · exact hA'
      · exact hA'
      · exact hA'
    exact hS _ hget
open N7 N6 N5
/-! what is due -/
section
variable {G : GH} {A B : Nat} {ps qs : Pl}
theorem comp_in {a0 : Option W} {n : Nat} {c : M Bool} {us : Pl} (hA : G[n]? = some (.lst (pW us))) (p : Nat × Nat → Bool) (hc : ∀ q ∈ us, c [a0, some (.loc A), some (.loc B), some (.tup [.int (q.1 : Nat), .int (q.2 : Nat)])] G = .ok (p q) G) :
    compF [(n, pW us)] (gN 3) c (mVar 3) [a0, some (.loc A), some (.loc B), none] (pW us) G = .ok (pW (us.filter p)) G := by
  rw [← pW_filter]
  have hs := still_of hA
  generalize hX : [(n, pW us)] = src at *
  clear hX
  refine compF_filterP (p := p) (F := fun q : Nat × Nat => W.tup [.int (q.1 : Nat), .int (q.2 : Nat)]) hs ?_
  refine paired_map ?_
  refine paired_of rfl fun i x y e1 e2 => ?_
  rw [e1] at e2
  cases e2
  exact ⟨_, rfl, hc x (List.mem_of_getElem? e1), fun _ => rfl⟩
theorem mcomp_in {a0 a3 : Option W} {n k : Nat} {c : M Bool} {us : Pl} (hk : mVar k [a0, some (.loc A), some (.loc B), a3] G = .ok (.val (.loc n)) G) (hA : G[n]? = some (.lst (pW us))) (hl : us.length ≤ 10000) (p : Nat × Nat → Bool) (hc : ∀ q ∈ us, c [a0, some (.loc A), some (.loc B), some (.tup [.int (q.1 : Nat), .int (q.2 : Nat)])] G = .ok (p q) G) :
    mComp (miA (mVar k)) (gN 3) c (mVar 3) [3] [a0, some (.loc A), some (.loc B), a3] G = .ok (.tmp (pW (us.filter p))) G := by
  have h := comp_in hA p hc
  have hl2 : (pW us).length ≤ 16777216 := by simp; omega
  have hia := iterA_at hA
  rw [mComp_at, miA_at, hk, R.bind_ok, hia, R.bind_ok]
  simp only [if_pos hl2]
  show (compF _ _ _ _ [a0, some (.loc A), some (.loc B), none] _ _).bind _ = _
  rw [h]
  rfl
theorem due_eq (hA : G[A]? = some (.lst (pW ps))) (hB : G[B]? = some (.lst (pW qs))) (lA : ps.length ≤ 1000) (lB : qs.length ≤ 1000) {w : Nat} (hw : w < 4) : m_law_due [.int w, .loc A, .loc B] G = .ok (.loc G.length) (G ++ [.lst (pW (dueP w ps qs))]) := by
  refine mDef_ok [some (.int w), some (.loc A), some (.loc B), none] ?_
  unfold b_law_due
  have v1 : ∀ a0 a3, mVar 1 [a0, some (.loc A), some (.loc B), a3] G = .ok (.val (.loc A)) G := fun _ _ => rfl
  have v2 : ∀ a0 a3, mVar 2 [a0, some (.loc A), some (.loc B), a3] G = .ok (.val (.loc B)) G := fun _ _ => rfl
  have iB : ∀ (a0 : Option W) (q : Nat × Nat), mB (mBin fIn (mVar 3) (mVar 2)) [a0, some (.loc A), some (.loc B), some (.tup [.int (q.1 : Nat), .int (q.2 : Nat)])] G = .ok (decide (q ∈ qs)) G := fun a0 q => by
    have := fIn_pairs q hB
    simp [this]
  have nB : ∀ (a0 : Option W) (q : Nat × Nat), mB (mBin fNotIn (mVar 3) (mVar 2)) [a0, some (.loc A), some (.loc B), some (.tup [.int (q.1 : Nat), .int (q.2 : Nat)])] G = .ok (!decide (q ∈ qs)) G := fun a0 q => by
    have := fNotIn_pairs q hB
    simp [this]
  have nA : ∀ (a0 : Option W) (q : Nat × Nat), mB (mBin fNotIn (mVar 3) (mVar 1)) [a0, some (.loc A), some (.loc B), some (.tup [.int (q.1 : Nat), .int (q.2 : Nat)])] G = .ok (!decide (q ∈ ps)) G := fun a0 q => by
    have := fNotIn_pairs q hA
    simp [this]
  have f1 := List.length_filter_le (fun q => !decide (q ∈ qs)) ps
  have f2 := List.length_filter_le (fun q => !decide (q ∈ ps)) qs
  have f0 := List.length_filter_le (fun q => decide (q ∈ qs)) ps
  have hw4 : w = 0 ∨ w = 1 ∨ w = 2 ∨ w = 3 := by omega
  rcases hw4 with rfl | rfl | rfl | rfl
  · have c := fun a0 => mcomp_in (a0 := a0) (a3 := none) (v1 _ _) hA (by omega) _ fun q _ => iB _ q
    have hl : (pW (ps.filter fun q => decide (q ∈ qs))).length ≤ 16777216 := by simp; omega
    simp only [dueP]
    generalize pW (ps.filter fun q => decide (q ∈ qs)) = us at *
    rw [seq_yes (G1 := G) (by simp)]
    exact seq_rt (by simp [c])
  · have c := fun a0 => mcomp_in (a0 := a0) (a3 := none) (v2 _ _) hB (by omega) _ fun q _ => nA _ q
    have hadd : fAdd (.val (.loc A)) (.tmp (pW (qs.filter fun q => !decide (q ∈ ps)))) G = .ok (.tmp (pW (ps ++ qs.filter fun q => !decide (q ∈ ps)))) G := by
      rw [← pW_app]
      exact fAdd_locT hA (by simp; omega)
    simp only [dueP]
    generalize pW (ps ++ qs.filter fun q => !decide (q ∈ ps)) = vs at *
    generalize pW (qs.filter fun q => !decide (q ∈ ps)) = us at *
    rw [seq_no (G1 := G) (by simp), seq_yes (G1 := G) (by simp)]
    exact seq_rt (by simp [c, hadd])
  · have c1 := fun a0 => mcomp_in (a0 := a0) (a3 := none) (v1 _ _) hA (by omega) _ fun q _ => nB _ q
    have c2 := fun a0 => mcomp_in (a0 := a0) (a3 := none) (v2 _ _) hB (by omega) _ fun q _ => nA _ q
    have hadd : fAdd (.tmp (pW (ps.filter fun q => !decide (q ∈ qs)))) (.tmp (pW (qs.filter fun q => !decide (q ∈ ps)))) G = .ok (.tmp (pW ((ps.filter fun q => !decide (q ∈ qs)) ++ qs.filter fun q => !decide (q ∈ ps)))) G := by
      rw [← pW_app]
      have : (pW (ps.filter fun q => !decide (q ∈ qs))).length + (pW (qs.filter fun q => !decide (q ∈ ps))).length ≤ 16777216 := by simp; omega
      unfold fAdd
      simp only [wrl_tmp, if_pos this]
    simp only [dueP]
    generalize pW ((ps.filter fun q => !decide (q ∈ qs)) ++ qs.filter fun q => !decide (q ∈ ps)) = vs at *
    generalize pW (qs.filter fun q => !decide (q ∈ ps)) = us at *
    generalize pW (ps.filter fun q => !decide (q ∈ qs)) = ws at *
    rw [seq_no (G1 := G) (by simp), seq_no (G1 := G) (by simp), seq_yes (G1 := G) (by simp)]
    exact seq_rt (by simp [c1, c2, hadd])
  · have c := fun a0 => mcomp_in (a0 := a0) (a3 := none) (v1 _ _) hA (by omega) _ fun q _ => nB _ q
    simp only [dueP]
    generalize pW (ps.filter fun q => !decide (q ∈ qs)) = us at *
    rw [seq_no (G1 := G) (by simp), seq_no (G1 := G) (by simp), seq_no (G1 := G) (by simp)]
    simp [c]
end
end Lk06
set_option Elab.async false
set_option linter.all false
set_option maxRecDepth 100000
set_option maxHeartbeats 4000000
namespace Lk06
open PySem PySem.Spec PyProof.Rows L2 Sy
theorem side_pos {z m : Int} (h : 0 < m) (h2 : m ≤ 24) : ∃ n : Nat, 1 + z % m = n ∧ 0 < n ∧ n ≤ 24 := by
  have h3 := Int.emod_nonneg z (show m ≠ 0 by omega)
  have h4 := Int.emod_lt_of_pos z h
  obtain ⟨n, hn⟩ := nat_of (show 0 ≤ 1 + z % m by omega)
  exact ⟨n, hn, by omega, by omega⟩
theorem min_two (q : Nat) (h0 : 0 < q) (h1 : q ≤ 24) : ∃ k : Nat, 0 < k ∧ k ≤ 24 ∧ ∀ G, fMin [.val (.int q), .val (.int 2)] G = .ok (.val (.int k)) G := by
  have mn : ∀ (G : GH), fMin [.val (.int q), .val (.int 2)] G = .ok (.val (.int (if (2 : Int) < q then 2 else q))) G := fun G => rfl
  by_cases h2 : (2 : Int) < q
  · exact ⟨2, by decide, by decide, fun G => by rw [mn, if_pos h2]; rfl⟩
  · exact ⟨q, h0, h1, fun G => by rw [mn, if_neg h2]⟩
theorem forL_nx {src : Src} {g : MG} {b : MS} {w : W} {ws : List W} {τ τ1 τ2 : Sl} {G G2 : GH} (hs : still src G = true) (hg : g w τ = some τ1) (hb : b τ1 G = .nx τ2 G2) : forL src g b (w :: ws) τ G = forL src g b ws τ2 G2 := by
  conv => lhs; unfold forL
  rw [hs, hg]
  simp only [if_true, hb]
theorem forL_ex {src : Src} {g : MG} {b : MS} {w : W} {ws : List W} {τ τ1 τ2 : Sl} {G G2 : GH} {c : Nat} {fs} (hs : still src G = true) (hg : g w τ = some τ1) (hb : b τ1 G = .ex c fs τ2 G2) : forL src g b (w :: ws) τ G = .ex c fs τ2 G2 := by
  conv => lhs; unfold forL
  rw [hs, hg]
  simp only [if_true, hb]
theorem forL_end {src : Src} {g : MG} {b : MS} {τ : Sl} {G : GH} (hs : still src G = true) : forL src g b [] τ G = .nx τ G := by
  unfold forL
  rw [if_pos hs]
/-! two masks, of which something is wrong -/
theorem need_two_bad {G : GH} {n : Nat} {v w : W} (h : G[n]? = some (.lst [v, w])) (hv : m_is_mask [v] G = .ok (.bl true) G) (hb : m_is_mask [w] G = .ok (.bl false) G) : m_need_masks [.loc n] G = .ex 5 [] G := by
  have hit := iterA_at h
  refine mDef_ex [some (.loc n), none] (τ1 := [some (.loc n), some w]) ?_
  unfold b_need_masks
  refine seq_ex ?_
  rw [sFor_at, show miA (mVar 0) [some (.loc n), none] G = .ok ([v, w], [(n, [v, w])]) G by simp [miA_at, hit], R.toS_ok]
  have hst : still [(n, [v, w])] G = true := still_of h
  show forL [(n, [v, w])] _ _ [v, w] _ _ = _
  rw [forL_nx hst rfl (τ2 := [some (.loc n), some v]) (G2 := G) (if_no (by simp [hv]))]
  refine forL_ex hst rfl ?_
  show (sIf _ _ _ [some (.loc n), some w] G) = _
  rw [if_yes (G1 := G) (by simp [hb])]
  rfl
theorem need_two_size {G : GH} {n : Nat} {w1 w2 : Nat} {rows us : List Nat} (h : G[n]? = some (.lst [mk w1 rows, mk w2 us])) (g1 : GoodM w1 rows) (g2 : GoodM w2 us) (hne : w2 ≠ w1 ∨ us.length ≠ rows.length) : m_need_masks [.loc n] G = .ex 3 [] G := by
  have hit := iterA_at h
  have e1 := is_mask_good g1 G
  have e2 := is_mask_good g2 G
  have hst : still [(n, [mk w1 rows, mk w2 us])] G = true := still_of h
  have hix : fIx (.val (.loc n)) (.val (.int 0)) G = .ok (.val (mk w1 rows)) G := fIx_loc (k := 0) h rfl
  have i1 : fIx (.val (mk w1 rows)) (.val (.int 0)) G = .ok (.val (.int w1)) G := rfl
  have i2 : fIx (.val (mk w1 rows)) (.val (.int 1)) G = .ok (.val (.tup (nW rows))) G := rfl
  have i3 : fIx (.val (mk w2 us)) (.val (.int 0)) G = .ok (.val (.int w2)) G := rfl
  have i4 : fIx (.val (mk w2 us)) (.val (.int 1)) G = .ok (.val (.tup (nW us))) G := rfl
  have i5 : fLen [.val (.tup (nW rows))] G = .ok (.val (.int rows.length)) G := by simp
  have i6 : fLen [.val (.tup (nW us))] G = .ok (.val (.int us.length)) G := by simp
  generalize mk w1 rows = v at *
  generalize mk w2 us = w at *
  generalize nW rows = vr at *
  generalize nW us = wr at *
  refine mDef_ex [some (.loc n), none] (τ1 := [some (.loc n), some w]) ?_
  unfold b_need_masks
  rw [seq_nx (τ1 := [some (.loc n), some w]) (G1 := G) (by
    rw [sFor_at, show miA (mVar 0) [some (.loc n), none] G = .ok ([v, w], [(n, [v, w])]) G by simp [miA_at, hit], R.toS_ok]
    show forL [(n, [v, w])] _ _ [v, w] _ _ = _
    rw [forL_nx hst rfl (τ2 := [some (.loc n), some v]) (G2 := G) (if_no (by simp [e1]))]
    rw [forL_nx hst rfl (τ2 := [some (.loc n), some w]) (G2 := G) (if_no (by simp [e2]))]
    exact forL_end hst)]
  rw [sFor_at, show miA (mVar 0) [some (.loc n), some w] G = .ok ([v, w], [(n, [v, w])]) G by simp [miA_at, hit], R.toS_ok]
  show forL [(n, [v, w])] _ _ [v, w] _ _ = _
  rw [forL_nx hst rfl (τ2 := [some (.loc n), some v]) (G2 := G) (if_no (by simp [hix, i1, i2, i5]))]
  refine forL_ex hst rfl ?_
  show (sIf _ _ _ [some (.loc n), some w] G) = _
  rw [if_yes (G1 := G) (by
    by_cases hw : w2 = w1
    · have hl : us.length ≠ rows.length := by
        rcases hne with z | z
        · exact absurd hw z
        · exact z
      have : ¬ (us.length : Int) = rows.length := by omega
      simp [hix, i1, i2, i3, i4, i5, i6, hw, this]
    · have : ¬ (w2 : Int) = w1 := by omega
      simp [hix, i1, i3, this])]
  rfl
open N7 N6 N5
theorem size_eq (r : Nat) : ∃ wide high : Nat, (0 < wide ∧ wide ≤ 24 ∧ 0 < high ∧ high ≤ 24) ∧ ∀ G, m_law_size [.int r] G = .ok (.tup [.int wide, .int high]) G := by
  have l36 : Nat.log2 36 < 9000 := by decide
  have l6 : Nat.log2 6 < 9000 := by decide
  have l300 : Nat.log2 300 < 9000 := by decide
  obtain ⟨w, hw, w0, w1⟩ := side_pos (z := (r : Int)) (m := 6) (by decide) (by decide)
  obtain ⟨h, hh, h0, h1⟩ := side_pos (z := (r : Int) / 6) (m := 6) (by decide) (by decide)
  obtain ⟨f, hf, f0, f1⟩ := side_pos (z := (r : Int) / 300) (m := 24) (by decide) (by decide)
  obtain ⟨mw, mw0, mw1, hmw⟩ := min_two w w0 w1
  obtain ⟨mh, mh0, mh1, hmh⟩ := min_two h h0 h1
  have s1 : ∀ G, sSet 2 (mBin fAdd (mC (.int 1)) (mBin fMod (mVar 0) (mC (.int 6)))) [some (.int r), none, none] G = .nx [some (.int r), none, some (.int w)] G := fun G => by simp [fMod_int, hw]
  have s2 : ∀ G, sSet 1 (mBin fAdd (mC (.int 1)) (mBin fMod (mBin fFdiv (mVar 0) (mC (.int 6))) (mC (.int 6)))) [some (.int r), none, some (.int w)] G = .nx [some (.int r), some (.int h), some (.int w)] G := fun G => by simp [fMod_int, fFdiv_int, l6, hh]
  by_cases c1 : (r : Int) / 36 % 8 = 1
  · have c2 : ¬ (r : Int) / 36 % 8 = 2 := by omega
    refine ⟨f, mh, ⟨f0, f1, mh0, mh1⟩, fun G => mDef_ok [some (.int r), none, none] ?_⟩
    unfold b_law_size
    rw [seq_nx (s1 G), seq_nx (s2 G), seq_yes (G1 := G) (by simp [fMod_int, fFdiv_int, l36, c1])]
    rw [seq_nx (τ1 := [some (.int r), some (.int mh), some (.int f)]) (G1 := G) (by simp [fMod_int, fFdiv_int, l300, hf, hmh])]
    rw [seq_no (G1 := G) (by simp [fMod_int, fFdiv_int, l36, c2])]
    simp
  · by_cases c2 : (r : Int) / 36 % 8 = 2
    · refine ⟨mw, f, ⟨mw0, mw1, f0, f1⟩, fun G => mDef_ok [some (.int r), none, none] ?_⟩
      unfold b_law_size
      rw [seq_nx (s1 G), seq_nx (s2 G), seq_no (G1 := G) (by simp [fMod_int, fFdiv_int, l36, c1])]
      rw [seq_yes (G1 := G) (by simp [fMod_int, fFdiv_int, l36, c2])]
      rw [seq_nx (τ1 := [some (.int r), some (.int f), some (.int mw)]) (G1 := G) (by simp [fMod_int, fFdiv_int, l300, hf, hmw])]
      simp
    · refine ⟨w, h, ⟨w0, w1, h0, h1⟩, fun G => mDef_ok [some (.int r), none, none] ?_⟩
      unfold b_law_size
      rw [seq_nx (s1 G), seq_nx (s2 G), seq_no (G1 := G) (by simp [fMod_int, fFdiv_int, l36, c1])]
      rw [seq_no (G1 := G) (by simp [fMod_int, fFdiv_int, l36, c2])]
      simp
/-! one mask alone -/
theorem isNot_true (G : GH) : fIsNot (.val (.bl true)) (.val (.bl true)) G = .ok (.val (.bl false)) G := rfl
theorem lack_eq {wide : Nat} {rows : List Nat} (g : GoodM wide rows) : rowsOf ((placesP wide (fullR wide rows.length) rows.length).filter fun p => !decide (p ∈ placesP wide rows rows.length)) rows.length = List.zipWith (opN 2) rows (fullR wide rows.length) := by
  have gf := full_good g.w0 g.w1 g.h0 g.h1
  have h := rowsOf_due (w := 3) gf.row g.row (by simp)
  rw [show (fullR wide rows.length).length = rows.length by simp] at h
  refine h.trans ?_
  refine List.ext_getElem? fun y => ?_
  rw [List.getElem?_zipWith, List.getElem?_zipWith]
  cases er : rows[y]? with
  | none => cases (fullR wide rows.length)[y]? <;> rfl
  | some r =>
    have hy : y < rows.length := (List.getElem?_eq_some_iff.mp er).1
    rw [show (fullR wide rows.length)[y]? = some (2 ^ wide - 1) by unfold fullR; rw [List.getElem?_replicate, if_pos hy]]
    have hr := g.row r (List.mem_of_getElem? er)
    refine congrArg some ?_
    show (2 ^ wide - 1) ^^^ ((2 ^ wide - 1) &&& r) = r ^^^ (2 ^ wide - 1)
    refine Nat.eq_of_testBit_eq fun i => ?_
    rw [Nat.testBit_xor, Nat.testBit_xor, Nat.testBit_and, Nat.testBit_two_pow_sub_one]
    by_cases hi : i < wide
    · simp [hi]
    · have : r.testBit i = false := Nat.testBit_lt_two_pow (Nat.lt_of_lt_of_le hr (Nat.pow_le_pow_right (by decide) (by omega)))
      simp [hi, this]
theorem alone_eq {wide : Nat} {rows : List Nat} (g : GoodM wide rows) (G : GH) : ∃ xs, m_law_alone_right [mk wide rows] G = .ok (.bl true) (G ++ xs) := by
  suffices h : ∃ xs, b_law_alone_right [some (mk wide rows), none, none, none, none, none, none, none] G = .rt (.bl true) (G ++ xs) by
    obtain ⟨xs, h⟩ := h
    exact ⟨xs, mDef_ok _ h⟩
  have gf := full_good g.w0 g.w1 g.h0 g.h1
  have hw1 := g.w1
  have hh1 := g.h1
  have hpl := placesP_len wide rows rows.length
  have hpf := placesP_len wide (fullR wide rows.length) rows.length
  have hwy : wide * rows.length ≤ 24 * 24 := Nat.mul_le_mul hw1 hh1
  unfold b_law_alone_right
  rw [seq_nx (τ1 := [some (mk wide rows), none, none, none, some (.tup (nW rows)), none, some (.int wide), none]) (G1 := G) (by
    unfold mk
    generalize nW rows = ws
    simp)]
  have e1 := places_eq g G
  have hlen : (pW (placesP wide rows rows.length)).length = (placesP wide rows rows.length).length := by simp
  have hlack := lack_eq g
  obtain ⟨P, hP⟩ : ∃ P, P = placesP wide rows rows.length := ⟨_, rfl⟩
  obtain ⟨F, hF⟩ : ∃ F, F = placesP wide (fullR wide rows.length) rows.length := ⟨_, rfl⟩
  have e0 : ∀ G, m_is_mask [mk wide rows] G = .ok (.bl true) G := is_mask_good g
  have e2 := many_mask_eq g
  have e3 := cells_eq g
  have e4 := full_eq g.w0 g.w1 g.h0 g.h1
  have e5 := places_eq gf
  have e6 := same_mask_eq wide (fullR wide rows.length) (by simp; omega)
  have e7 := other_mask_eq g
  have e8 := same_mask_eq wide (List.zipWith (opN 2) rows (fullR wide rows.length)) (by simp; omega)
  have hpow := power_pw wide (by omega)
  have hrep : ∀ G, fMul (.val (.tup [.int (pw wide - 1)])) (.val (.int rows.length)) G = .ok (.val (.tup (nW (fullR wide rows.length)))) G := fun G => by
    rw [fMul_one g.h0 (by omega)]
    unfold nW fullR
    rw [List.map_replicate, pw_pred]
  have hmk : ∀ ws : List W, W.tup [.int wide, .tup ws] = .tup [.int wide, .tup ws] := fun _ => rfl
  have hL : ∀ G, fLen [.val (.tup (nW rows))] G = .ok (.val (.int rows.length)) G := fun G => by simp
  rw [show (fullR wide rows.length).length = rows.length by simp] at e5
  rw [← hP] at e1 hlen hpl hlack
  simp only [← hP, ← hF] at e2 e3 e5 hlack
  rw [← hF] at hpf
  have hFm : ∀ p ∈ F, p.1 ≤ 200 ∧ p.2 < rows.length := fun p hp => by
    rw [hF] at hp
    have := mem_places.mp hp
    exact ⟨by omega, this.1⟩
  clear hP hF
  have hG0 : (G ++ [GO.lst (pW P)])[G.length]? = some (.lst (pW P)) := by simp
  rw [seq_nx (τ1 := [some (mk wide rows), none, none, some (.loc G.length), some (.tup (nW rows)), none, some (.int wide), none]) (G1 := G ++ [.lst (pW P)]) (by
    generalize pW P = ws at *
    generalize mk wide rows = m at *
    simp [e1])]
  clear e1
  generalize hL1 : G ++ [GO.lst (pW P)] = G1 at *
  -- how many
  have e2a := e2 G1
  have e2b := e2 (G1 ++ [.lst [mk wide rows]])
  have wh := whole_int (P.length : Int)
  have hl2 : fLen [.val (.loc G.length)] (G1 ++ [.lst [mk wide rows]] ++ [.lst [mk wide rows]]) = .ok (.val (.int P.length)) (G1 ++ [.lst [mk wide rows]] ++ [.lst [mk wide rows]]) := by
    rw [fLen_loc (ws := pW P) (get_mono (get_mono hG0 _) _), hlen]
  rw [seq_no (G1 := G1 ++ [.lst [mk wide rows]] ++ [.lst [mk wide rows]]) (by
    generalize mk wide rows = m at *
    generalize G1 ++ [GO.lst [m]] = G2 at *
    generalize G2 ++ [GO.lst [m]] = G3 at *
    simp [e0, isNot_true, e2a, e2b, wh, hl2])]
  have hG2 : (G1 ++ [GO.lst [mk wide rows]] ++ [GO.lst [mk wide rows]])[G.length]? = some (.lst (pW P)) := get_mono (get_mono hG0 _) _
  have hx2 : ∃ ys, G1 ++ [GO.lst [mk wide rows]] ++ [GO.lst [mk wide rows]] = G ++ ys := ⟨_, by rw [← hL1, List.append_assoc, List.append_assoc]⟩
  clear hl2 e2a e2b hG0 hL1
  generalize G1 ++ [GO.lst [mk wide rows]] ++ [GO.lst [mk wide rows]] = G3 at *
  -- which
  obtain ⟨ys, e3a⟩ := e3 G3
  rw [seq_nx (τ1 := [some (mk wide rows), some (.loc (G3.length + 1)), none, some (.loc G.length), some (.tup (nW rows)), none, some (.int wide), none]) (G1 := G3 ++ [.lst [mk wide rows], .lst (pW P)] ++ ys) (by
    generalize mk wide rows = m at *
    generalize pW P = ws at *
    generalize G3 ++ [GO.lst [m], GO.lst ws] ++ ys = G4 at *
    simp [e3a])]
  have hA : (G3 ++ [GO.lst [mk wide rows], .lst (pW P)] ++ ys)[G3.length + 1]? = some (.lst (pW P)) := get_mono (by simp) ys
  have hB : (G3 ++ [GO.lst [mk wide rows], .lst (pW P)] ++ ys)[G.length]? = some (.lst (pW P)) := get_mono (get_mono hG2 _) ys
  have hx3 : ∃ ys', G3 ++ [GO.lst [mk wide rows], .lst (pW P)] ++ ys = G ++ ys' := by
    obtain ⟨zs, hz⟩ := hx2
    exact ⟨_, by rw [hz, List.append_assoc, List.append_assoc]⟩
  have hGl : G.length < G3.length := (List.getElem?_eq_some_iff.mp hG2).1
  clear e3a hG2 hx2
  have hz3 : ∃ us, G3.length + 1 = us := ⟨_, rfl⟩
  generalize G3 ++ [GO.lst [mk wide rows], .lst (pW P)] ++ ys = G4 at *
  obtain ⟨c, hc⟩ := hz3
  have hcg : G.length < c := by omega
  rw [hc] at hA ⊢
  have ne1 := ne_pairs hA hB
  have il := isi_lst_list hA
  rw [seq_no (G1 := G4) (by
    generalize mk wide rows = m at *
    simp [il, ne1])]
  have hi := isLst_ok hA
  have ha := appOk (w := .non) hA (by rw [hlen]; omega)
  rw [seq_nx (τ1 := [some (mk wide rows), some (.loc c), none, some (.loc G.length), some (.tup (nW rows)), none, some (.int wide), none]) (G1 := G4.set c (.lst (pW P ++ [.non]))) (by
    generalize mk wide rows = m at *
    generalize pW P = ws at *
    simp [hi, ha])]
  have hB5 : (G4.set c (.lst (pW P ++ [.non])))[G.length]? = some (.lst (pW P)) := by
    rw [List.getElem?_set_ne (by omega)]
    exact hB
  have hx5 : ∃ ys', G4.set c (.lst (pW P ++ [.non])) = G ++ ys' := by
    obtain ⟨zs, hz⟩ := hx3
    exact ⟨_, by rw [hz, List.set_append_right _ _ (by omega)]⟩
  clear hA hB hx3 ne1 il hi ha
  generalize G4.set c (.lst (pW P ++ [.non])) = G5 at *
  have e4a := e4 G5
  rw [seq_nx (τ1 := [some (mk wide rows), some (.loc c), none, some (.loc G.length), some (.tup (nW rows)), some (mk wide (fullR wide rows.length)), some (.int wide), none]) (G1 := G5) (by
    generalize mk wide rows = m at *
    generalize mk wide (fullR wide rows.length) = f at *
    generalize nW rows = ws at *
    simp [e4a, hL])]
  clear e4 e4a
  have e5a := e5 G5
  have hB6 : (G5 ++ [GO.lst (pW F)])[G.length]? = some (.lst (pW P)) := get_mono hB5 _
  have hF6 : (G5 ++ [GO.lst (pW F)])[G5.length]? = some (.lst (pW F)) := by simp
  have hlF : (pW F).length ≤ 16777216 := by simp; omega
  have hcmp : compF [(G5.length, pW F)] (gN 7) (mB (mBin fNotIn (mVar 7) (mVar 3))) (mVar 7) [some (mk wide rows), some (.loc c), none, some (.loc G.length), some (.tup (nW rows)), some (mk wide (fullR wide rows.length)), some (.int wide), none] (pW F) (G5 ++ [.lst (pW F)]) = .ok (pW (F.filter fun p => !decide (p ∈ P))) (G5 ++ [.lst (pW F)]) := by
    rw [← pW_filter]
    have hs := still_of hF6
    generalize hX : [(G5.length, pW F)] = src at *
    generalize mk wide rows = m at *
    generalize mk wide (fullR wide rows.length) = f at *
    refine compF_filterP (p := fun p => !decide (p ∈ P)) (F := fun q : Nat × Nat => W.tup [.int (q.1 : Nat), .int (q.2 : Nat)]) hs ?_
    refine paired_map ?_
    refine paired_of rfl fun i x y e1 e2 => ?_
    rw [e1] at e2
    cases e2
    have := fNotIn_pairs x hB6
    refine ⟨_, rfl, ?_, fun _ => rfl⟩
    generalize G5 ++ [GO.lst (pW F)] = G6 at *
    simp [this]
  have hia := iterA_at hF6
  rw [seq_nx (τ1 := [some (mk wide rows), some (.loc c), some (.loc (G5.length + 1)), some (.loc G.length), some (.tup (nW rows)), some (mk wide (fullR wide rows.length)), some (.int wide), none]) (G1 := G5 ++ [.lst (pW F)] ++ [.lst (pW (F.filter fun p => !decide (p ∈ P)))]) (by
    generalize mk wide rows = m at *
    generalize mk wide (fullR wide rows.length) = f at *
    generalize nW rows = ws at *
    generalize pW (F.filter fun p => !decide (p ∈ P)) = vs at *
    generalize pW F = us at *
    have hlen6 : (G5 ++ [GO.lst us]).length = G5.length + 1 := by simp
    have hLL : vs.length ≤ 16777216 ∨ True := .inr trivial
    generalize G5 ++ [GO.lst us] = G6 at *
    simp [mComp_at, miA_at, wipeS, e5a, hia, hlF, hcmp, hlen6])]
  have hB7 : (G5 ++ [GO.lst (pW F)] ++ [.lst (pW (F.filter fun p => !decide (p ∈ P)))])[G.length]? = some (.lst (pW P)) := get_mono hB6 _
  have hD7 : (G5 ++ [GO.lst (pW F)] ++ [.lst (pW (F.filter fun p => !decide (p ∈ P)))])[G5.length + 1]? = some (.lst (pW (F.filter fun p => !decide (p ∈ P)))) := by simp
  have hx7 : ∃ ys', G5 ++ [GO.lst (pW F)] ++ [.lst (pW (F.filter fun p => !decide (p ∈ P)))] = G ++ ys' := by
    obtain ⟨zs, hz⟩ := hx5
    exact ⟨_, by rw [hz, List.append_assoc, List.append_assoc]⟩
  clear hB6 hF6 hcmp hia e5a hx5 hB5
  generalize G5 ++ [GO.lst (pW F)] ++ [.lst (pW (F.filter fun p => !decide (p ∈ P)))] = G7 at *
  obtain ⟨ys8, e3b⟩ := e3 G7
  have hne : fNe (.val (.loc (G7.length + 1))) (.val (.loc G.length)) (G7 ++ [.lst [mk wide rows], .lst (pW P)] ++ ys8) = .ok (.val (.bl false)) (G7 ++ [.lst [mk wide rows], .lst (pW P)] ++ ys8) :=
    ne_pairs (ps := P) (get_mono (by simp) ys8) (get_mono (get_mono hB7 _) ys8)
  have hD8 : (G7 ++ [.lst [mk wide rows], .lst (pW P)] ++ ys8)[G5.length + 1]? = some (.lst (pW (F.filter fun p => !decide (p ∈ P)))) := get_mono (get_mono hD7 _) ys8
  have hx8 : ∃ ys', G7 ++ [.lst [mk wide rows], .lst (pW P)] ++ ys8 = G ++ ys' := by
    obtain ⟨zs, hz⟩ := hx7
    exact ⟨_, by rw [hz, List.append_assoc, List.append_assoc]⟩
  have e6a := e6 G7
  have hpow7 := hpow G7
  have hrep7 := hrep G7
  rw [seq_no (G1 := G7 ++ [.lst [mk wide rows], .lst (pW P)] ++ ys8) (by
    generalize G7 ++ [GO.lst [mk wide rows], GO.lst (pW P)] ++ ys8 = G8 at *
    generalize mk wide rows = m at *
    unfold mk at e6a ⊢
    generalize nW (fullR wide rows.length) = fs at *
    generalize nW rows = ws at *
    generalize pw wide = p at *
    simp [hpow7, hL, hrep7, e6a, e3b, hne])]
  clear hB7 hD7 hx7 e3b hne e6a
  generalize G7 ++ [GO.lst [mk wide rows], GO.lst (pW P)] ++ ys8 = G8 at *
  obtain ⟨ys9, e7a⟩ := e7 G8
  obtain ⟨ys10, e9⟩ := mask_by_eq (wide := wide) (high := rows.length) (get_mono hD8 ys9) (fun p hp => hFm p (List.mem_filter.mp hp).1) hh1
  rw [hlack] at e9
  have e8a := e8 (G8 ++ ys9 ++ ys10)
  obtain ⟨zs, hz⟩ := hx8
  refine ⟨zs ++ ys9 ++ ys10, ?_⟩
  rw [show G ++ (zs ++ ys9 ++ ys10) = G8 ++ ys9 ++ ys10 by rw [hz]; simp]
  generalize mk wide (List.zipWith (opN 2) rows (fullR wide rows.length)) = o at *
  generalize mk wide (fullR wide rows.length) = f at *
  generalize mk wide rows = m at *
  generalize nW rows = ws at *
  generalize G8 ++ ys9 = G9 at *
  generalize G9 ++ ys10 = G10 at *
  simp [e7a, e9, e8a, hL]
end Lk06
set_option Elab.async false
set_option linter.all false
set_option maxRecDepth 100000
set_option maxHeartbeats 4000000
namespace Lk06
open PySem PySem.Spec PyProof.Rows L2 Sy
open N7 N6 N5
/-! what is asked -/
theorem asked_eq {w wide : Nat} {rows us : List Nat} (hw : w < 4) (g1 : GoodM wide rows) (g2 : GoodM wide us) (hl : us.length = rows.length) (G : GH) : m_law_asked [.int w, mk wide rows, mk wide us] G = .ok (mk wide (List.zipWith (opN w) rows us)) (G ++ [.lst [mk wide rows, mk wide us]]) := by
  have e0 := both_eq g1 g2 hl G
  have e1 := either_eq g1 g2 hl G
  have e2 := one_eq g1 g2 hl G
  have e3 := less_eq g1 g2 hl G
  refine mDef_ok [some (.int w), some (mk wide rows), some (mk wide us)] ?_
  unfold b_law_asked
  have hw4 : w = 0 ∨ w = 1 ∨ w = 2 ∨ w = 3 := by omega
  rcases hw4 with rfl | rfl | rfl | rfl
  · generalize mk wide (List.zipWith (opN 0) rows us) = r at *
    generalize mk wide rows = m at *
    generalize mk wide us = m2 at *
    rw [seq_yes (G1 := G) (by simp)]
    exact seq_rt (by simp [e0])
  · generalize mk wide (List.zipWith (opN 1) rows us) = r at *
    generalize mk wide rows = m at *
    generalize mk wide us = m2 at *
    rw [seq_no (G1 := G) (by simp), seq_yes (G1 := G) (by simp)]
    exact seq_rt (by simp [e1])
  · generalize mk wide (List.zipWith (opN 2) rows us) = r at *
    generalize mk wide rows = m at *
    generalize mk wide us = m2 at *
    rw [seq_no (G1 := G) (by simp), seq_no (G1 := G) (by simp), seq_yes (G1 := G) (by simp)]
    exact seq_rt (by simp [e2])
  · generalize mk wide (List.zipWith (opN 3) rows us) = r at *
    generalize mk wide rows = m at *
    generalize mk wide us = m2 at *
    rw [seq_no (G1 := G) (by simp), seq_no (G1 := G) (by simp), seq_no (G1 := G) (by simp), seq_yes (G1 := G) (by simp)]
    exact seq_rt (by simp [e3])
/-- two masks: refused as the masks are -/
theorem asked_ex2 {w c : Nat} {m m2 : W} {G : GH} (hw : w < 4) (h : m_need_masks [.loc G.length] (G ++ [.lst [m, m2]]) = .ex c [] (G ++ [.lst [m, m2]])) : m_law_asked [.int w, m, m2] G = .ex c [] (G ++ [.lst [m, m2]]) := by
  have e0 : m_both_masks [m, m2] G = .ex c [] (G ++ [.lst [m, m2]]) := by
    refine mDef_ex [some m, some m2, none, none] (τ1 := [some m, some m2, none, none]) ?_
    unfold b_both_masks
    exact seq_ex (by simp [h])
  have e1 : m_either_mask [m, m2] G = .ex c [] (G ++ [.lst [m, m2]]) := by
    refine mDef_ex [some m, some m2, none, none] (τ1 := [some m, some m2, none, none]) ?_
    unfold b_either_mask
    exact seq_ex (by simp [h])
  have e2 : m_one_mask [m, m2] G = .ex c [] (G ++ [.lst [m, m2]]) := by
    refine mDef_ex [some m, some m2, none, none] (τ1 := [some m, some m2, none, none]) ?_
    unfold b_one_mask
    exact seq_ex (by simp [h])
  have e3 : m_less_mask [m, m2] G = .ex c [] (G ++ [.lst [m, m2]]) := by
    refine mDef_ex [some m, some m2, none, none] (τ1 := [some m, some m2, none, none]) ?_
    unfold b_less_mask
    exact seq_ex (by simp [h])
  generalize G ++ [GO.lst [m, m2]] = G1 at *
  refine mDef_ex [some (.int w), some m, some m2] (τ1 := [some (.int w), some m, some m2]) ?_
  unfold b_law_asked
  have hw4 : w = 0 ∨ w = 1 ∨ w = 2 ∨ w = 3 := by omega
  rcases hw4 with rfl | rfl | rfl | rfl
  · rw [seq_yes (G1 := G) (by simp)]
    exact seq_ex (by simp [e0])
  · rw [seq_no (G1 := G) (by simp), seq_yes (G1 := G) (by simp)]
    exact seq_ex (by simp [e1])
  · rw [seq_no (G1 := G) (by simp), seq_no (G1 := G) (by simp), seq_yes (G1 := G) (by simp)]
    exact seq_ex (by simp [e2])
  · rw [seq_no (G1 := G) (by simp), seq_no (G1 := G) (by simp), seq_no (G1 := G) (by simp), seq_yes (G1 := G) (by simp)]
    exact seq_ex (by simp [e3])
theorem asked_ex1 {w : Nat} {m m2 : W} {G : GH} (hw : 4 ≤ w) (hw7 : w < 7) (h : m_need_masks [.loc G.length] (G ++ [.lst [m]]) = .ex 5 [] (G ++ [.lst [m]])) : m_law_asked [.int w, m, m2] G = .ex 5 [] (G ++ [.lst [m]]) := by
  have e0 : m_other_mask [m] G = .ex 5 [] (G ++ [.lst [m]]) := by
    refine mDef_ex [some m] (τ1 := [some m]) ?_
    unfold b_other_mask
    exact seq_ex (by simp [h])
  have e1 : m_many_in_mask [m] G = .ex 5 [] (G ++ [.lst [m]]) := by
    refine mDef_ex [some m, none] (τ1 := [some m, none]) ?_
    unfold b_many_in_mask
    exact seq_ex (by simp [h])
  have e2 : m_cells_in_mask [m] G = .ex 5 [] (G ++ [.lst [m]]) := by
    refine mDef_ex [some m, none, none, none, none] (τ1 := [some m, none, none, none, none]) ?_
    unfold b_cells_in_mask
    exact seq_ex (by simp [h])
  generalize G ++ [GO.lst [m]] = G1 at *
  refine mDef_ex [some (.int w), some m, some m2] (τ1 := [some (.int w), some m, some m2]) ?_
  unfold b_law_asked
  have hw4 : w = 4 ∨ w = 5 ∨ w = 6 := by omega
  rcases hw4 with rfl | rfl | rfl
  · rw [seq_no (G1 := G) (by simp), seq_no (G1 := G) (by simp), seq_no (G1 := G) (by simp), seq_no (G1 := G) (by simp), seq_yes (G1 := G) (by simp)]
    exact seq_ex (by simp [e0])
  · rw [seq_no (G1 := G) (by simp), seq_no (G1 := G) (by simp), seq_no (G1 := G) (by simp), seq_no (G1 := G) (by simp), seq_no (G1 := G) (by simp), seq_yes (G1 := G) (by simp)]
    exact seq_ex (by simp [e1])
  · rw [seq_no (G1 := G) (by simp), seq_no (G1 := G) (by simp), seq_no (G1 := G) (by simp), seq_no (G1 := G) (by simp), seq_no (G1 := G) (by simp), seq_no (G1 := G) (by simp)]
    simp [e2]
/-! words of refusals -/
theorem word5 {w : Nat} {m m2 : W} {G G1 : GH} (h : m_law_asked [.int w, m, m2] G = .ex 5 [] G1) : m_law_word [.int w, m, m2] G = .ok (.str "value mask") G1 := by
  refine mDef_ok [some (.int w), some m, some m2, none] ?_
  unfold b_law_word
  refine seq_rt (try_ex (c := 5) (τ1 := [some (.int w), some m, some m2, none]) (G1 := G1) (by simp [h]) rfl fun a => ?_)
  have e2 := class_5 a G1
  simp [e2, RS.unS]
theorem word3 {w : Nat} {m m2 : W} {G G1 : GH} (h : m_law_asked [.int w, m, m2] G = .ex 3 [] G1) : m_law_word [.int w, m, m2] G = .ok (.str "value size") G1 := by
  refine mDef_ok [some (.int w), some m, some m2, none] ?_
  unfold b_law_word
  refine seq_rt (try_ex (c := 3) (τ1 := [some (.int w), some m, some m2, none]) (G1 := G1) (by simp [h]) rfl fun a => ?_)
  have e2 := class_3 a G1
  simp [e2, RS.unS]
theorem word_bad1 {w : Nat} {m m2 : W} {G : GH} (hw : w < 7) (hb : Bad G m) : ∃ xs, m_law_word [.int w, m, m2] G = .ok (.str "value mask") (G ++ xs) := by
  by_cases h4 : w < 4
  · exact ⟨_, word5 (asked_ex2 h4 (need_masks_bad (w := m) (ws := [m2]) (by simp) (hb _)))⟩
  · exact ⟨_, word5 (asked_ex1 (by omega) hw (need_masks_bad (w := m) (ws := []) (by simp) (hb _)))⟩
theorem word_bad2 {w wide : Nat} {rows : List Nat} {m2 : W} {G : GH} (hw : w < 4) (g : GoodM wide rows) (hb : Bad G m2) : ∃ xs, m_law_word [.int w, mk wide rows, m2] G = .ok (.str "value mask") (G ++ xs) :=
  ⟨_, word5 (asked_ex2 hw (need_two_bad (by simp) (is_mask_good g _) (hb _)))⟩
theorem word_size {w w1 w2 : Nat} {rows us : List Nat} {G : GH} (hw : w < 4) (g1 : GoodM w1 rows) (g2 : GoodM w2 us) (hne : w2 ≠ w1 ∨ us.length ≠ rows.length) : ∃ xs, m_law_word [.int w, mk w1 rows, mk w2 us] G = .ok (.str "value size") (G ++ xs) :=
  ⟨_, word3 (asked_ex2 hw (need_two_size (by simp) g1 g2 hne))⟩
theorem sides_bad {u v : W} {G : GH} (hu : okW G u) (hv : okW G v) (h : amongW 1 24 u = false ∨ amongW 1 24 v = false) : m_law_full_word [u, v] G = .ok (.str "value size") G := by
  have e1 := among_eq hu 1 24
  have e2 := among_eq hv 1 24
  have en : m_need_sides [u, v] G = .ex 3 [] G := by
    refine mDef_ex [some u, some v] (τ1 := [some u, some v]) ?_
    unfold b_need_sides
    rw [if_yes (G1 := G) (by
      cases hq : amongW 1 24 u with
      | false => rw [hq] at e1; simp [e1]
      | true =>
        rw [hq] at e1
        rcases h with z | z
        · rw [z] at hq; cases hq
        · rw [z] at e2
          simp [e1, e2])]
    rfl
  have ef : m_full_mask [u, v] G = .ex 3 [] G := by
    refine mDef_ex [some u, some v] (τ1 := [some u, some v]) ?_
    unfold b_full_mask
    exact seq_ex (by simp [en])
  refine mDef_ok [some u, some v, none] ?_
  unfold b_law_full_word
  refine seq_rt (try_ex (c := 3) (τ1 := [some u, some v, none]) (G1 := G) (by simp [ef]) rfl fun a => ?_)
  have e2 := class_3 a G
  simp [e2, RS.unS]
theorem fPow_20 (G : GH) : fPow (.val (.int 10)) (.val (.int 20)) G = .ok (.val (.int (10 ^ 20))) G := rfl
end Lk06
set_option Elab.async false
set_option linter.all false
set_option maxRecDepth 100000
set_option maxHeartbeats 4000000
namespace Lk06
open PySem PySem.Spec PyProof.Rows L2 Sy
open N7 N6 N5
theorem last_get (G : GH) (o : GO) : (G ++ [o])[G.length]? = some o := by simp
theorem odd_all {G : GH} {n : Nat} (hn : G[n]? = some (.lst [.int 3])) : ∀ u ∈ [W.int 0, .int 25, .int (-1), .bl true, .non, .str "3", .loc n, .int (10 ^ 20)], okW G u ∧ amongW 1 24 u = false := by
  intro u hu
  simp at hu
  rcases hu with rfl | rfl | rfl | rfl | rfl | rfl | rfl | rfl
  · exact ⟨rfl, rfl⟩
  · exact ⟨rfl, rfl⟩
  · exact ⟨rfl, rfl⟩
  · exact ⟨rfl, rfl⟩
  · exact ⟨rfl, rfl⟩
  · exact ⟨rfl, rfl⟩
  · exact ⟨by unfold okW; rw [tyOf_lst hn]; rfl, rfl⟩
  · exact ⟨rfl, by simp [amongW]⟩
theorem fIx_mod {ws : List W} {z : Int} {m : Nat} (h0 : 0 < m) (h : ws.length = m) (G : GH) : ∃ u ∈ ws, fIx (.tmp ws) (.val (.int (z % m))) G = .ok (.val u) G := by
  obtain ⟨k, hk, hk2⟩ := mod_nat z h0
  have e : ws[k]? = some ws[k] := List.getElem?_eq_getElem (by omega)
  exact ⟨ws[k], List.getElem_mem _, by rw [hk]; exact fIx_tmp e⟩
theorem isNot_false (G : GH) : fIsNot (.val (.bl false)) (.val (.bl false)) G = .ok (.val (.bl false)) G := rfl
theorem vm_ne (G : GH) : fNe (.val (.str "value mask")) (.val (.str "value mask")) G = .ok (.val (.bl false)) G := by
  have hs : ("value mask" : Str).cps.all (· < 0x110000) = true := by decide +kernel
  exact ne_same (toDT_str hs) (toDT_str hs) rfl
theorem vs_ne (G : GH) : fNe (.val (.str "value size")) (.val (.str "value size")) G = .ok (.val (.bl false)) G := by
  have hs : ("value size" : Str).cps.all (· < 0x110000) = true := by decide +kernel
  exact ne_same (toDT_str hs) (toDT_str hs) rfl
theorem vs_eq (G : GH) : fEq (.val (.str "value size")) (.val (.str "value size")) G = .ok (.val (.bl true)) G := by
  have hs : ("value size" : Str).cps.all (· < 0x110000) = true := by decide +kernel
  exact eq_same (toDT_str hs) (toDT_str hs) rfl
theorem due_mem {i wide high : Nat} {rows us : List Nat} (hw : wide ≤ 24) (hl : rows.length = high) (hl2 : us.length = high) : ∀ p ∈ dueP i (placesP wide rows rows.length) (placesP wide us us.length), p.1 ≤ 200 ∧ p.2 < high := by
  have m1 : ∀ p ∈ placesP wide rows rows.length, p.1 ≤ 200 ∧ p.2 < high := fun p hp => by
    have := mem_places.mp hp
    exact ⟨by omega, by omega⟩
  have m2 : ∀ p ∈ placesP wide us us.length, p.1 ≤ 200 ∧ p.2 < high := fun p hp => by
    have := mem_places.mp hp
    exact ⟨by omega, by omega⟩
  intro p hp
  unfold dueP at hp
  split at hp
  · exact m1 p (List.mem_filter.mp hp).1
  · rcases List.mem_append.mp hp with z | z
    · exact m1 p z
    · exact m2 p (List.mem_filter.mp z).1
  · rcases List.mem_append.mp hp with z | z
    · exact m1 p (List.mem_filter.mp z).1
    · exact m2 p (List.mem_filter.mp z).1
  · exact m1 p (List.mem_filter.mp hp).1
theorem due_turn {i wide high : Nat} {rows us : List Nat} (g : GoodM wide rows) (g2 : GoodM wide us) (hl : rows.length = high) (hl2 : us.length = high) (hi : i < 4) (a0 a1 a2 a3 a5 a6 a7 : Option W) (G : GH) : ∃ (o : W) (G9 : GH),
    (sSeq (sSet 2 (mCall m_law_mask_by [] (mCons (mCall m_law_due [] (mCons (mVar 10) (mCons (mCall m_law_places [] (mCons (mVar 8) mNil)) (mCons (mCall m_law_places [] (mCons (mVar 9) mNil)) mNil)))) (mCons (mVar 11) (mCons (mVar 4) mNil))))) (sIf (mNot (mTru (mCall m_law_same_mask [] (mCons (mCall m_law_asked [] (mCons (mVar 10) (mCons (mVar 8) (mCons (mVar 9) mNil)))) (mCons (mVar 2) mNil))))) (sRet (mC (.bl false))) sNext))
      [a0, a1, a2, a3, some (.int high), a5, a6, a7, some (mk wide rows), some (mk wide us), some (.int i), some (.int wide)] G = .nx [a0, a1, some o, a3, some (.int high), a5, a6, a7, some (mk wide rows), some (mk wide us), some (.int i), some (.int wide)] G9 := by
  have w1 := g.w1
  have h1 := g.h1
  have hP := due_mem (i := i) w1 hl hl2
  have hdue := rowsOf_due (w := i) g.row g2.row (by rw [hl2, hl])
  have l1 : (placesP wide rows rows.length).length ≤ 1000 := by
    have := placesP_len wide rows rows.length
    have : wide * rows.length ≤ 24 * 24 := Nat.mul_le_mul w1 (by omega)
    omega
  have l2 : (placesP wide us us.length).length ≤ 1000 := by
    have := placesP_len wide us us.length
    have : wide * us.length ≤ 24 * 24 := Nat.mul_le_mul w1 (by omega)
    omega
  have e1 := places_eq g G
  have e2 := places_eq g2 (G ++ [.lst (pW (placesP wide rows rows.length))])
  have f1 : (G ++ [.lst (pW (placesP wide rows rows.length))] ++ [.lst (pW (placesP wide us us.length))])[G.length]? = some (.lst (pW (placesP wide rows rows.length))) := get_mono (last_get _ _) _
  have f2 : (G ++ [.lst (pW (placesP wide rows rows.length))] ++ [.lst (pW (placesP wide us us.length))])[(G ++ [GO.lst (pW (placesP wide rows rows.length))]).length]? = some (.lst (pW (placesP wide us us.length))) := last_get _ _
  have e3 := due_eq f1 f2 l1 l2 hi
  obtain ⟨D, hD⟩ : ∃ D, D = dueP i (placesP wide rows rows.length) (placesP wide us us.length) := ⟨_, rfl⟩
  rw [← hD] at hP e3 hdue
  clear f1 f2 l1 l2 hD
  generalize G ++ [GO.lst (pW (placesP wide rows rows.length))] ++ [GO.lst (pW (placesP wide us us.length))] = G5 at e2 e3
  generalize G ++ [GO.lst (pW (placesP wide rows rows.length))] = G6 at e1 e2 e3
  obtain ⟨xs6, e4⟩ := mask_by_eq (wide := wide) (last_get G5 (.lst (pW D))) hP (by omega)
  rw [hl] at hdue
  rw [hdue] at e4
  have e5 := asked_eq hi g g2 (by rw [hl2, hl]) (G5 ++ [.lst (pW D)] ++ xs6)
  have e6 := same_mask_eq wide (List.zipWith (opN i) rows us) (by simp; omega) (G5 ++ [.lst (pW D)] ++ xs6 ++ [.lst [mk wide rows, mk wide us]])
  generalize G5 ++ [GO.lst (pW D)] = G7 at e3 e4 e5 e6
  generalize G7 ++ xs6 = G8 at e4 e5 e6
  refine ⟨mk wide (List.zipWith (opN i) rows us), G8 ++ [.lst [mk wide rows, mk wide us]], ?_⟩
  generalize mk wide (List.zipWith (opN i) rows us) = o at *
  generalize mk wide rows = m at *
  generalize mk wide us = m2 at *
  rw [seq_nx (τ1 := [a0, a1, some o, a3, some (.int high), a5, a6, a7, some m, some m2, some (.int i), some (.int wide)]) (G1 := G8) (by simp [e1, e2, e3, e4])]
  generalize G8 ++ [GO.lst [m, m2]] = G9 at *
  exact if_no (by simp [e5, e6])
theorem law_body {ns : List Int} (hb : ∀ z ∈ ns, Builtin.Int.intBits z ≤ 1048576) : ∃ G, b_law [some (scr ns), none, none, none, none, none, none, none, none, none, none, none] [] = .rt (.bl true) G := by
  unfold b_law
  obtain ⟨r, hr, hmix⟩ := mixed_nat hb 0 (by decide)
  have hmix' : ∀ G, m_law_mixed [scr ns, .int 0] G = .ok (.int r) G := hmix
  rw [seq_nx (τ1 := [some (scr ns), none, none, none, none, none, some (.int r), none, none, none, none, none]) (G1 := []) (by simp [hmix'])]
  obtain ⟨wide, high, ⟨w0, w1, h0, h1⟩, hsz⟩ := size_eq r
  rw [seq_nx (τ1 := [some (scr ns), none, none, none, some (.int high), none, some (.int r), none, none, none, none, some (.int wide)]) (G1 := []) (by simp [hsz])]
  obtain ⟨rows, xs, g, hl, hmask⟩ := mask_eq hb 3 wide high (by decide) w0 w1 h0 h1 []
  have hmask' : m_law_mask [scr ns, .int 3, .int wide, .int high] [] = .ok (mk wide rows) ([] ++ xs) := hmask
  generalize ([] : GH) ++ xs = G0 at *
  rw [seq_nx (τ1 := [some (scr ns), none, none, none, some (.int high), none, some (.int r), none, some (mk wide rows), none, none, some (.int wide)]) (G1 := G0) (by
    generalize mk wide rows = m at *
    simp [hmask'])]
  obtain ⟨us, ys, g2, hl2, hmask2⟩ := mask_eq hb 13 wide high (by decide) w0 w1 h0 h1 G0
  have hmask2' : m_law_mask [scr ns, .int 13, .int wide, .int high] G0 = .ok (mk wide us) (G0 ++ ys) := hmask2
  generalize G0 ++ ys = G1 at *
  rw [seq_nx (τ1 := [some (scr ns), none, none, none, some (.int high), none, some (.int r), none, some (mk wide rows), some (mk wide us), none, some (.int wide)]) (G1 := G1) (by
    generalize mk wide rows = m at *
    generalize mk wide us = m2 at *
    simp [hmask2'])]
  obtain ⟨z1, a1⟩ := alone_eq g G1
  obtain ⟨z2, a2⟩ := alone_eq g2 (G1 ++ z1)
  rw [seq_no (G1 := G1 ++ z1 ++ z2) (by
    generalize mk wide rows = m at *
    generalize mk wide us = m2 at *
    generalize G1 ++ z1 = G2 at *
    generalize G2 ++ z2 = G3 at *
    simp [a1, a2])]
  clear a1 a2
  generalize G1 ++ z1 ++ z2 = G3
  have hlen : us.length = rows.length := by rw [hl2, hl]
  have hloop : ∃ (a2 a10 : Option W) (G4 : GH), sFor (miR (mCons (mC (.int 4)) mNil)) (gN 10) (sSeq (sSet 2 (mCall m_law_mask_by [] (mCons (mCall m_law_due [] (mCons (mVar 10) (mCons (mCall m_law_places [] (mCons (mVar 8) mNil)) (mCons (mCall m_law_places [] (mCons (mVar 9) mNil)) mNil)))) (mCons (mVar 11) (mCons (mVar 4) mNil))))) (sIf (mNot (mTru (mCall m_law_same_mask [] (mCons (mCall m_law_asked [] (mCons (mVar 10) (mCons (mVar 8) (mCons (mVar 9) mNil)))) (mCons (mVar 2) mNil))))) (sRet (mC (.bl false))) sNext))
      [some (scr ns), none, none, none, some (.int high), none, some (.int r), none, some (mk wide rows), some (mk wide us), none, some (.int wide)] G3 = .nx [some (scr ns), none, a2, none, some (.int high), none, some (.int r), none, some (mk wide rows), some (mk wide us), a10, some (.int wide)] G4 := by
    rw [sFor_at, show ∀ τ, miR (mCons (mC (.int 4)) mNil) τ G3 = .ok (rangeW 0 4, []) G3 from fun τ => iterR_ok (j := 4) rfl, R.toS_ok]
    refine forL_run (I := fun _ τ _ => ∃ a2 a10, τ = [some (scr ns), none, a2, none, some (.int high), none, some (.int r), none, some (mk wide rows), some (mk wide us), a10, some (.int wide)])
      (E := fun q => ∃ (a2 a10 : Option W) (G4 : GH), q = .nx [some (scr ns), none, a2, none, some (.int high), none, some (.int r), none, some (mk wide rows), some (mk wide us), a10, some (.int wide)] G4) (src := []) (ws := rangeW 0 4)
      (τ := [some (scr ns), none, none, none, some (.int high), none, some (.int r), none, some (mk wide rows), some (mk wide us), none, some (.int wide)]) (G := G3) ⟨_, _, rfl⟩ ?_ ?_
    · rintro i w τ G hw ⟨a2, a10, rfl⟩
      obtain ⟨hi, rfl⟩ := rangeW_get hw
      rw [Int.zero_add]
      refine ⟨still_nil, _, rfl, ?_⟩
      have e := (due_turn g g2 hl hl2 hi (some (scr ns)) none a2 none none (some (.int r)) none G).choose_spec.choose_spec
      show Turn _ _ (sSeq _ _ [some (scr ns), none, a2, none, some (.int high), none, some (.int r), none, some (mk wide rows), some (mk wide us), some (.int i), some (.int wide)] G)
      rw [e]
      exact ⟨_, _, rfl⟩
    · rintro τ G ⟨a2, a10, rfl⟩
      exact ⟨still_nil, _, _, _, rfl⟩
  obtain ⟨a2, a10, G4, hloop⟩ := hloop
  rw [seq_nx hloop]
  clear hloop
  obtain ⟨r1, hr1, hm1⟩ := mixed_nat hb 1 (by decide)
  have hm1' : ∀ G, m_law_mixed [scr ns, .int 1] G = .ok (.int r1) G := hm1
  rw [seq_nx (τ1 := [some (scr ns), none, a2, none, some (.int high), some (.int r1), some (.int r), none, some (mk wide rows), some (mk wide us), a10, some (.int wide)]) (G1 := G4) (by
    generalize mk wide rows = m at *
    generalize mk wide us = m2 at *
    simp [hm1'])]
  obtain ⟨bad, ys5, hwrong, hbad⟩ := wrong_eq g r1 G4
  rw [seq_nx (τ1 := [some (scr ns), some bad, a2, none, some (.int high), some (.int r1), some (.int r), none, some (mk wide rows), some (mk wide us), a10, some (.int wide)]) (G1 := G4 ++ ys5) (by
    generalize mk wide rows = m at *
    generalize mk wide us = m2 at *
    simp [hwrong])]
  generalize G4 ++ ys5 = G5 at *
  -- another size
  have hfar : ∃ (wf : Nat) (vs : List Nat) (G6 : GH), GoodM wf vs ∧ (wf ≠ wide ∨ vs.length ≠ rows.length) ∧ Bad G6 bad ∧ ∀ b, sSeq (sSet 3 (mBin fIx (mLst (mCons (mCall m_law_mask [] (mCons (mVar 0) (mCons (mC (.int 13)) (mCons (mBin fAdd (mBin fMod (mVar 11) (mC (.int 24))) (mC (.int 1))) (mCons (mVar 4) mNil))))) (mCons (mCall m_law_mask [] (mCons (mVar 0) (mCons (mC (.int 13)) (mCons (mVar 11) (mCons (mBin fAdd (mBin fMod (mVar 4) (mC (.int 24))) (mC (.int 1))) mNil))))) mNil))) (mBin fMod (mBin fFdiv (mVar 5) (mC (.int 40))) (mC (.int 2))))) b
      [some (scr ns), some bad, a2, none, some (.int high), some (.int r1), some (.int r), none, some (mk wide rows), some (mk wide us), a10, some (.int wide)] G5 = b [some (scr ns), some bad, a2, some (mk wf vs), some (.int high), some (.int r1), some (.int r), none, some (mk wide rows), some (mk wide us), a10, some (.int wide)] G6 := by
    have hw24 : wide % 24 + 1 ≤ 24 := by omega
    have hh24 : high % 24 + 1 ≤ 24 := by omega
    obtain ⟨v1, x1, gA, lA, mA⟩ := mask_eq hb 13 (wide % 24 + 1) high (by decide) (by omega) hw24 h0 h1 G5
    obtain ⟨v2, x2, gB, lB, mB⟩ := mask_eq hb 13 wide (high % 24 + 1) (by decide) w0 w1 (by omega) hh24 (G5 ++ x1)
    have mA' : m_law_mask [scr ns, .int 13, .int ((wide : Int) % 24 + 1), .int high] G5 = .ok (mk (wide % 24 + 1) v1) (G5 ++ x1) := mA
    have mB' : m_law_mask [scr ns, .int 13, .int wide, .int ((high : Int) % 24 + 1)] (G5 ++ x1) = .ok (mk wide v2) (G5 ++ x1 ++ x2) := mB
    have hbad2 : Bad (G5 ++ x1 ++ x2) bad := (hbad.mono x1).mono x2
    obtain ⟨k, hk, hk2⟩ := mod_nat ((r1 : Int) / 40) (m := 2) (by decide)
    have hk' : (r1 : Int) / 40 % 2 = k := hk
    have l40 : Nat.log2 40 < 9000 := by decide
    generalize hG6 : G5 ++ x1 ++ x2 = G6 at *
    generalize G5 ++ x1 = G5a at *
    have : k = 0 ∨ k = 1 := by omega
    rcases this with rfl | rfl
    · refine ⟨wide % 24 + 1, v1, G6, gA, .inl (by omega), hbad2, fun b => seq_nx ?_⟩
      have e := fIx_tmp (ws := [mk (wide % 24 + 1) v1, mk wide v2]) (k := 0) (w := mk (wide % 24 + 1) v1) (G := G6) rfl
      generalize mk (wide % 24 + 1) v1 = f1 at *
      generalize mk wide v2 = f2 at *
      generalize mk wide rows = m at *
      generalize mk wide us = m2 at *
      simp only [Int.natCast_zero] at e hk'
      simp [fMod_int, fFdiv_int, l40, hk', mA', mB', e]
    · refine ⟨wide, v2, G6, gB, .inr (by omega), hbad2, fun b => seq_nx ?_⟩
      have e := fIx_tmp (ws := [mk (wide % 24 + 1) v1, mk wide v2]) (k := 1) (w := mk wide v2) (G := G6) rfl
      generalize mk (wide % 24 + 1) v1 = f1 at *
      generalize mk wide v2 = f2 at *
      generalize mk wide rows = m at *
      generalize mk wide us = m2 at *
      simp only [Int.natCast_one] at e hk'
      simp [fMod_int, fFdiv_int, l40, hk', mA', mB', e]
  obtain ⟨wf, vs, G6, gf, hne, hbad6, hfar⟩ := hfar
  rw [hfar]
  clear hfar
  have hb0 := hbad6 []
  rw [List.append_nil] at hb0
  rw [seq_no (G1 := G6) (by
    generalize mk wide rows = m at *
    generalize mk wide us = m2 at *
    generalize mk wf vs = f at *
    simp [hb0, isNot_false])]
  -- refused
  have hl7 : ∃ (b10 : Option W) (G7 : GH), Bad G7 bad ∧ sFor (miR (mCons (mC (.int 7)) mNil)) (gN 10) (sIf (mB (mBin fNe (mCall m_law_word [] (mCons (mVar 10) (mCons (mVar 1) (mCons (mVar 3) mNil)))) (mC (.str "value mask")))) (sRet (mC (.bl false))) sNext)
      [some (scr ns), some bad, a2, some (mk wf vs), some (.int high), some (.int r1), some (.int r), none, some (mk wide rows), some (mk wide us), a10, some (.int wide)] G6 = .nx [some (scr ns), some bad, a2, some (mk wf vs), some (.int high), some (.int r1), some (.int r), none, some (mk wide rows), some (mk wide us), b10, some (.int wide)] G7 := by
    rw [sFor_at, show ∀ τ, miR (mCons (mC (.int 7)) mNil) τ G6 = .ok (rangeW 0 7, []) G6 from fun τ => iterR_ok (j := 7) rfl, R.toS_ok]
    refine forL_run (I := fun _ τ G => (∃ a10, τ = [some (scr ns), some bad, a2, some (mk wf vs), some (.int high), some (.int r1), some (.int r), none, some (mk wide rows), some (mk wide us), a10, some (.int wide)]) ∧ Bad G bad)
      (E := fun q => ∃ (b10 : Option W) (G7 : GH), Bad G7 bad ∧ q = .nx [some (scr ns), some bad, a2, some (mk wf vs), some (.int high), some (.int r1), some (.int r), none, some (mk wide rows), some (mk wide us), b10, some (.int wide)] G7) (src := []) (ws := rangeW 0 7)
      (τ := [some (scr ns), some bad, a2, some (mk wf vs), some (.int high), some (.int r1), some (.int r), none, some (mk wide rows), some (mk wide us), a10, some (.int wide)]) (G := G6) ⟨⟨_, rfl⟩, hbad6⟩ ?_ ?_
    · rintro i w τ G hw ⟨⟨b10, rfl⟩, hbad⟩
      obtain ⟨hi, rfl⟩ := rangeW_get hw
      rw [Int.zero_add]
      refine ⟨still_nil, _, rfl, ?_⟩
      have e := (word_bad1 (m2 := mk wf vs) hi hbad).choose_spec
      have hb2 := hbad.mono (word_bad1 (m2 := mk wf vs) hi hbad).choose
      generalize G ++ (word_bad1 (m2 := mk wf vs) hi hbad).choose = G7 at e hb2
      show Turn _ _ (sIf _ _ _ [some (scr ns), some bad, a2, some (mk wf vs), some (.int high), some (.int r1), some (.int r), none, some (mk wide rows), some (mk wide us), some (.int i), some (.int wide)] G)
      rw [if_no (G1 := G7) (by
        generalize mk wide rows = m at *
        generalize mk wide us = m2 at *
        generalize mk wf vs = f at *
        simp [e, vm_ne])]
      exact ⟨⟨_, rfl⟩, hb2⟩
    · rintro τ G ⟨⟨b10, rfl⟩, hbad⟩
      exact ⟨still_nil, _, _, hbad, rfl⟩
  obtain ⟨b10, G7, hbad7, hl7⟩ := hl7
  rw [seq_nx hl7]
  clear hl7
  have hl4 : ∃ (c10 : Option W) (G8 : GH), sFor (miR (mCons (mC (.int 4)) mNil)) (gN 10) (sSeq (sIf (mOr (mB (mBin fNe (mCall m_law_word [] (mCons (mVar 10) (mCons (mVar 8) (mCons (mVar 1) mNil)))) (mC (.str "value mask")))) (mB (mBin fNe (mCall m_law_word [] (mCons (mVar 10) (mCons (mVar 8) (mCons (mVar 3) mNil)))) (mC (.str "value size"))))) (sRet (mC (.bl false))) sNext) (sIf (mB (mBin fNe (mCall m_law_word [] (mCons (mVar 10) (mCons (mVar 3) (mCons (mVar 8) mNil)))) (mC (.str "value size")))) (sRet (mC (.bl false))) sNext))
      [some (scr ns), some bad, a2, some (mk wf vs), some (.int high), some (.int r1), some (.int r), none, some (mk wide rows), some (mk wide us), b10, some (.int wide)] G7 = .nx [some (scr ns), some bad, a2, some (mk wf vs), some (.int high), some (.int r1), some (.int r), none, some (mk wide rows), some (mk wide us), c10, some (.int wide)] G8 := by
    rw [sFor_at, show ∀ τ, miR (mCons (mC (.int 4)) mNil) τ G7 = .ok (rangeW 0 4, []) G7 from fun τ => iterR_ok (j := 4) rfl, R.toS_ok]
    refine forL_run (I := fun _ τ G => (∃ a10, τ = [some (scr ns), some bad, a2, some (mk wf vs), some (.int high), some (.int r1), some (.int r), none, some (mk wide rows), some (mk wide us), a10, some (.int wide)]) ∧ Bad G bad)
      (E := fun q => ∃ (c10 : Option W) (G8 : GH), q = .nx [some (scr ns), some bad, a2, some (mk wf vs), some (.int high), some (.int r1), some (.int r), none, some (mk wide rows), some (mk wide us), c10, some (.int wide)] G8) (src := []) (ws := rangeW 0 4)
      (τ := [some (scr ns), some bad, a2, some (mk wf vs), some (.int high), some (.int r1), some (.int r), none, some (mk wide rows), some (mk wide us), b10, some (.int wide)]) (G := G7) ⟨⟨_, rfl⟩, hbad7⟩ ?_ ?_
    · rintro i w τ G hw ⟨⟨d10, rfl⟩, hbad⟩
      obtain ⟨hi, rfl⟩ := rangeW_get hw
      rw [Int.zero_add]
      refine ⟨still_nil, _, rfl, ?_⟩
      have e1 := (word_bad2 hi g hbad).choose_spec
      have hb1 := hbad.mono (word_bad2 hi g hbad).choose
      generalize G ++ (word_bad2 hi g hbad).choose = Ga at e1 hb1
      have e2 := (word_size (G := Ga) hi g gf hne).choose_spec
      have hb2 := hb1.mono (word_size (G := Ga) hi g gf hne).choose
      generalize Ga ++ (word_size (G := Ga) hi g gf hne).choose = Gb at e2 hb2
      have hne2 : wide ≠ wf ∨ rows.length ≠ vs.length := by omega
      have e3 := (word_size (G := Gb) hi gf g hne2).choose_spec
      have hb3 := hb2.mono (word_size (G := Gb) hi gf g hne2).choose
      generalize Gb ++ (word_size (G := Gb) hi gf g hne2).choose = Gc at e3 hb3
      show Turn _ _ (sSeq _ _ [some (scr ns), some bad, a2, some (mk wf vs), some (.int high), some (.int r1), some (.int r), none, some (mk wide rows), some (mk wide us), some (.int i), some (.int wide)] G)
      rw [seq_no (G1 := Gb) (by
        generalize mk wide rows = m at *
        generalize mk wide us = m2 at *
        generalize mk wf vs = f at *
        simp [e1, e2, vm_ne, vs_ne])]
      rw [if_no (G1 := Gc) (by
        generalize mk wide rows = m at *
        generalize mk wide us = m2 at *
        generalize mk wf vs = f at *
        simp [e3, vs_ne])]
      exact ⟨⟨_, rfl⟩, hb3⟩
    · rintro τ G ⟨⟨b10, rfl⟩, hbad⟩
      exact ⟨still_nil, _, _, rfl⟩
  obtain ⟨c10, G8, hl4⟩ := hl4
  rw [seq_nx hl4]
  clear hl4
  have hn8 : (G8 ++ [GO.lst [.int 3]])[G8.length]? = some (.lst [.int 3]) := last_get _ _
  obtain ⟨u, hu, hix⟩ := fIx_mod (ws := [W.int 0, .int 25, .int (-1), .bl true, .non, .str "3", .loc G8.length, .int (10 ^ 20)]) (z := (r1 : Int) / 100) (m := 8) (by decide) rfl (G8 ++ [.lst [.int 3]])
  have hix' : fIx (.tmp [.int 0, .int 25, .int (-1), .bl true, .non, .str "3", .loc G8.length, .int (10 ^ 20)]) (.val (.int ((r1 : Int) / 100 % 8))) (G8 ++ [.lst [.int 3]]) = .ok (.val u) (G8 ++ [.lst [.int 3]]) := hix
  obtain ⟨ok, am⟩ := odd_all hn8 u hu
  have l100 : Nat.log2 100 < 9000 := by decide
  have f1 := sides_bad ok (okW_int _ (high : Int)) (.inl am)
  have f2 := sides_bad (okW_int _ (wide : Int)) ok (.inr am)
  have hp : ∀ G, fPow (.val (.int 10)) (.val (.int 20)) G = .ok (.val (.int (10 ^ 20))) G := fPow_20
  obtain ⟨big, hbig⟩ : ∃ z : Int, z = 10 ^ 20 := ⟨_, rfl⟩
  rw [← hbig] at hix'
  simp only [← hbig] at hp
  clear hbig hix
  rw [seq_nx (τ1 := [some (scr ns), some bad, a2, some (mk wf vs), some (.int high), some (.int r1), some (.int r), some u, some (mk wide rows), some (mk wide us), c10, some (.int wide)]) (G1 := G8 ++ [.lst [.int 3]]) (by
    generalize mk wide rows = m at *
    generalize mk wide us = m2 at *
    generalize mk wf vs = f at *
    simp [fMod_int, fFdiv_int, l100, hp, hix'])]
  generalize G8 ++ [GO.lst [W.int 3]] = G9 at *
  refine ⟨G9, ?_⟩
  generalize mk wide rows = m at *
  generalize mk wide us = m2 at *
  generalize mk wf vs = f at *
  simp [f1, f2, vs_eq]
theorem law_ok : ∀ ns : List Int, ns.length ≤ 63 → (∀ z ∈ ns, Builtin.Int.intBits z ≤ 1048576) → ∃ G, m_law [.frl (ns.map W.int)] [] = .ok (.bl true) G := by
  intro ns _ hb
  obtain ⟨G, h⟩ := law_body hb
  exact ⟨G, mDef_ok _ h⟩
end Lk06
set_option Elab.async false
set_option linter.all false
set_option maxRecDepth 100000
set_option maxHeartbeats 4000000
namespace Lk06
open PySem PySem.Spec PyProof.Rows L2 Sy
def fb : List (PySem.W.Frag → Bool) := [itF names it, xtF names xt]
def fn0 : List He.DefD := [⟨("bit_at", none), "bit_at", "bit_at", defArgs s_bit_at, defBody s_bit_at, defScope s_bit_at, [], []⟩, ⟨("many_bits", none), "many_bits", "many_bits", defArgs s_many_bits, defBody s_many_bits, defScope s_many_bits, [], []⟩, ⟨("places_of_bits", none), "places_of_bits", "places_of_bits", defArgs s_places_of_bits, defBody s_places_of_bits, defScope s_places_of_bits, [], []⟩, ⟨("is_among", none), "is_among", "is_among", defArgs s_is_among, defBody s_is_among, defScope s_is_among, [], []⟩, ⟨("need_sides", none), "need_sides", "need_sides", defArgs s_need_sides, defBody s_need_sides, defScope s_need_sides, [], []⟩, ⟨("is_mask", none), "is_mask", "is_mask", defArgs s_is_mask, defBody s_is_mask, defScope s_is_mask, [], []⟩, ⟨("need_masks", none), "need_masks", "need_masks", defArgs s_need_masks, defBody s_need_masks, defScope s_need_masks, [], []⟩, ⟨("full_mask", none), "full_mask", "full_mask", defArgs s_full_mask, defBody s_full_mask, defScope s_full_mask, [], []⟩, ⟨("both_masks", none), "both_masks", "both_masks", defArgs s_both_masks, defBody s_both_masks, defScope s_both_masks, [], []⟩, ⟨("either_mask", none), "either_mask", "either_mask", defArgs s_either_mask, defBody s_either_mask, defScope s_either_mask, [], []⟩, ⟨("one_mask", none), "one_mask", "one_mask", defArgs s_one_mask, defBody s_one_mask, defScope s_one_mask, [], []⟩, ⟨("less_mask", none), "less_mask", "less_mask", defArgs s_less_mask, defBody s_less_mask, defScope s_less_mask, [], []⟩, ⟨("other_mask", none), "other_mask", "other_mask", defArgs s_other_mask, defBody s_other_mask, defScope s_other_mask, [], []⟩, ⟨("many_in_mask", none), "many_in_mask", "many_in_mask", defArgs s_many_in_mask, defBody s_many_in_mask, defScope s_many_in_mask, [], []⟩, ⟨("cells_in_mask", none), "cells_in_mask", "cells_in_mask", defArgs s_cells_in_mask, defBody s_cells_in_mask, defScope s_cells_in_mask, [], []⟩, ⟨("_law_cell", none), "_law_cell", "_law_cell", defArgs s_law_cell, defBody s_law_cell, defScope s_law_cell, [], []⟩, ⟨("_law_mixed", none), "_law_mixed", "_law_mixed", defArgs s_law_mixed, defBody s_law_mixed, defScope s_law_mixed, [], []⟩, ⟨("_law_whole", none), "_law_whole", "_law_whole", defArgs s_law_whole, defBody s_law_whole, defScope s_law_whole, [], []⟩, ⟨("_law_power", none), "_law_power", "_law_power", defArgs s_law_power, defBody s_law_power, defScope s_law_power, [], []⟩, ⟨("_law_mask", none), "_law_mask", "_law_mask", defArgs s_law_mask, defBody s_law_mask, defScope s_law_mask, [], []⟩, ⟨("_law_places", none), "_law_places", "_law_places", defArgs s_law_places, defBody s_law_places, defScope s_law_places, [], []⟩, ⟨("_law_mask_by", none), "_law_mask_by", "_law_mask_by", defArgs s_law_mask_by, defBody s_law_mask_by, defScope s_law_mask_by, [], []⟩, ⟨("_law_same_mask", none), "_law_same_mask", "_law_same_mask", defArgs s_law_same_mask, defBody s_law_same_mask, defScope s_law_same_mask, [], []⟩, ⟨("_law_class", none), "_law_class", "_law_class", defArgs s_law_class, defBody s_law_class, defScope s_law_class, [], []⟩, ⟨("_law_wrong_mask", none), "_law_wrong_mask", "_law_wrong_mask", defArgs s_law_wrong_mask, defBody s_law_wrong_mask, defScope s_law_wrong_mask, [], []⟩, ⟨("_law_asked", none), "_law_asked", "_law_asked", defArgs s_law_asked, defBody s_law_asked, defScope s_law_asked, [], []⟩, ⟨("_law_word", none), "_law_word", "_law_word", defArgs s_law_word, defBody s_law_word, defScope s_law_word, [], []⟩, ⟨("_law_full_word", none), "_law_full_word", "_law_full_word", defArgs s_law_full_word, defBody s_law_full_word, defScope s_law_full_word, [], []⟩, ⟨("_law_due", none), "_law_due", "_law_due", defArgs s_law_due, defBody s_law_due, defScope s_law_due, [], []⟩, ⟨("_law_size", none), "_law_size", "_law_size", defArgs s_law_size, defBody s_law_size, defScope s_law_size, [], []⟩]
def fn1 : List He.DefD := [⟨("_law_alone_right", none), "_law_alone_right", "_law_alone_right", defArgs s_law_alone_right, defBody s_law_alone_right, defScope s_law_alone_right, [], []⟩, ⟨("law", none), "law", "law", defArgs s_law, defBody s_law, defScope s_law, [], []⟩]
def fn : List He.DefD := fn0 ++ fn1
def fa0 : List He.Fa := [.glo "bit_at", .glo "many_bits", .glo "places_of_bits", .glo "is_among", .glo "need_sides", .glo "is_mask", .glo "need_masks", .glo "full_mask", .glo "both_masks", .glo "either_mask", .glo "one_mask", .glo "less_mask", .glo "other_mask", .glo "many_in_mask", .glo "cells_in_mask", .glo "_law_cell", .glo "_law_mixed", .glo "_law_whole", .glo "_law_power", .glo "_law_mask", .glo "_law_places", .glo "_law_mask_by", .glo "_law_same_mask", .glo "_law_class", .glo "_law_wrong_mask", .glo "_law_asked", .glo "_law_word", .glo "_law_full_word", .glo "_law_due", .glo "_law_size"]
def fa1 : List He.Fa := [.glo "_law_alone_right", .glo "law", .free "ValueError", .free "all", .free "bool", .free "enumerate", .free "int", .free "isinstance", .free "len", .free "list", .free "min", .free "range", .free "str", .free "sum", .free "tuple", .free "zip", .int "MOST_SIDE" 24, .glo "FolioError", .glo "BadPicture", .glo "BadCell", .glo "BadSize", .glo "OutOfPlace", .glo "BadMask", .glo "BadRule", .glo "BadEdge", .exc "BadSize", .exc "BadMask"]
def fa : List He.Fa := fa0 ++ fa1
theorem facts {P : Program} {w : World} {K : PySem.W.Frag} {h : Heap} {mg : Str → Option Value} {f : Addr} (X : K.In h) (G : h.Ns mainGlobals mg) (hfa : mg "law" = some (.ref f)) (c : He.SaysD fa fn K) (cb : (fb.all fun f => f K) = true) :
    ∃ fd : FuncData, (∀ (s : Shared) (v : Value), BindsTo s fd ⟨[v], []⟩ [("_law_script", v)]) ∧ ∀ base : Heap, K.In base → base.Ns mainGlobals mg → FnOk P w K mg base (L2N.CX P w) 8 f fd ["_law_script"] (spM K (caN names K) 1 m_law) := by
  have T : Tx K mg (caN names K) := ⟨He.free_ok X G (c.fact 32 (f := .free "ValueError") rfl), He.free_ok X G (c.fact 33 (f := .free "all") rfl), He.free_ok X G (c.fact 34 (f := .free "bool") rfl), He.free_ok X G (c.fact 35 (f := .free "enumerate") rfl), He.free_ok X G (c.fact 36 (f := .free "int") rfl), He.free_ok X G (c.fact 37 (f := .free "isinstance") rfl), He.free_ok X G (c.fact 38 (f := .free "len") rfl), He.free_ok X G (c.fact 39 (f := .free "list") rfl), He.free_ok X G (c.fact 40 (f := .free "min") rfl), He.free_ok X G (c.fact 41 (f := .free "range") rfl), He.free_ok X G (c.fact 42 (f := .free "str") rfl), He.free_ok X G (c.fact 43 (f := .free "sum") rfl), He.free_ok X G (c.fact 44 (f := .free "tuple") rfl), He.free_ok X G (c.fact 45 (f := .free "zip") rfl), konW_intE (He.int_ok X G (c.fact 46 (f := .int "MOST_SIDE" 24) rfl)), cls_glo X G rfl (c.fact 47 (f := .glo "FolioError") rfl), cls_glo X G rfl (c.fact 48 (f := .glo "BadPicture") rfl), cls_glo X G rfl (c.fact 49 (f := .glo "BadCell") rfl), cls_glo X G rfl (c.fact 50 (f := .glo "BadSize") rfl), cls_glo X G rfl (c.fact 51 (f := .glo "OutOfPlace") rfl), cls_glo X G rfl (c.fact 52 (f := .glo "BadMask") rfl), cls_glo X G rfl (c.fact 53 (f := .glo "BadRule") rfl), cls_glo X G rfl (c.fact 54 (f := .glo "BadEdge") rfl), exW_of X G rfl (c.fact 50 (f := .glo "BadSize") rfl) (c.fact 55 (f := .exc "BadSize") rfl), exW_of X G rfl (c.fact 52 (f := .glo "BadMask") rfl) (c.fact 56 (f := .exc "BadMask") rfl), exs_of (fact_of cb 0) (fact_of cb 1)⟩
  obtain ⟨fd_bit_at, F_bit_at⟩ := c.def_ 0 (d := ⟨("bit_at", none), "bit_at", "bit_at", defArgs s_bit_at, defBody s_bit_at, defScope s_bit_at, [], []⟩) rfl
  have g_bit_at := He.glo_ok X G (c.fact 0 (f := .glo "bit_at") rfl)
  have b_bit_at : Binds K fd_bit_at P_bit_at [] := F_bit_at.bindsN fun _ _ _ _ _ _ us hl => match us, hl with | [_, _], _ => rfl
  obtain ⟨fd_many_bits, F_many_bits⟩ := c.def_ 1 (d := ⟨("many_bits", none), "many_bits", "many_bits", defArgs s_many_bits, defBody s_many_bits, defScope s_many_bits, [], []⟩) rfl
  have g_many_bits := He.glo_ok X G (c.fact 1 (f := .glo "many_bits") rfl)
  have b_many_bits : Binds K fd_many_bits P_many_bits [] := F_many_bits.bindsN fun _ _ _ _ _ _ us hl => match us, hl with | [_], _ => rfl
  obtain ⟨fd_places_of_bits, F_places_of_bits⟩ := c.def_ 2 (d := ⟨("places_of_bits", none), "places_of_bits", "places_of_bits", defArgs s_places_of_bits, defBody s_places_of_bits, defScope s_places_of_bits, [], []⟩) rfl
  have g_places_of_bits := He.glo_ok X G (c.fact 2 (f := .glo "places_of_bits") rfl)
  have b_places_of_bits : Binds K fd_places_of_bits P_places_of_bits [] := F_places_of_bits.bindsN fun _ _ _ _ _ _ us hl => match us, hl with | [_], _ => rfl
  obtain ⟨fd_is_among, F_is_among⟩ := c.def_ 3 (d := ⟨("is_among", none), "is_among", "is_among", defArgs s_is_among, defBody s_is_among, defScope s_is_among, [], []⟩) rfl
  have g_is_among := He.glo_ok X G (c.fact 3 (f := .glo "is_among") rfl)
  have b_is_among : Binds K fd_is_among P_is_among [] := F_is_among.bindsN fun _ _ _ _ _ _ us hl => match us, hl with | [_, _, _], _ => rfl
  obtain ⟨fd_need_sides, F_need_sides⟩ := c.def_ 4 (d := ⟨("need_sides", none), "need_sides", "need_sides", defArgs s_need_sides, defBody s_need_sides, defScope s_need_sides, [], []⟩) rfl
  have g_need_sides := He.glo_ok X G (c.fact 4 (f := .glo "need_sides") rfl)
  have b_need_sides : Binds K fd_need_sides P_need_sides [] := F_need_sides.bindsN fun _ _ _ _ _ _ us hl => match us, hl with | [_, _], _ => rfl
  obtain ⟨fd_is_mask, F_is_mask⟩ := c.def_ 5 (d := ⟨("is_mask", none), "is_mask", "is_mask", defArgs s_is_mask, defBody s_is_mask, defScope s_is_mask, [], []⟩) rfl
  have g_is_mask := He.glo_ok X G (c.fact 5 (f := .glo "is_mask") rfl)
  have b_is_mask : Binds K fd_is_mask P_is_mask [] := F_is_mask.bindsN fun _ _ _ _ _ _ us hl => match us, hl with | [_], _ => rfl
  obtain ⟨fd_need_masks, F_need_masks⟩ := c.def_ 6 (d := ⟨("need_masks", none), "need_masks", "need_masks", defArgs s_need_masks, defBody s_need_masks, defScope s_need_masks, [], []⟩) rfl
  have g_need_masks := He.glo_ok X G (c.fact 6 (f := .glo "need_masks") rfl)
  have b_need_masks : Binds K fd_need_masks P_need_masks [] := F_need_masks.bindsN fun _ _ _ _ _ _ us hl => match us, hl with | [_], _ => rfl
  obtain ⟨fd_full_mask, F_full_mask⟩ := c.def_ 7 (d := ⟨("full_mask", none), "full_mask", "full_mask", defArgs s_full_mask, defBody s_full_mask, defScope s_full_mask, [], []⟩) rfl
  have g_full_mask := He.glo_ok X G (c.fact 7 (f := .glo "full_mask") rfl)
  have b_full_mask : Binds K fd_full_mask P_full_mask [] := F_full_mask.bindsN fun _ _ _ _ _ _ us hl => match us, hl with | [_, _], _ => rfl
  obtain ⟨fd_both_masks, F_both_masks⟩ := c.def_ 8 (d := ⟨("both_masks", none), "both_masks", "both_masks", defArgs s_both_masks, defBody s_both_masks, defScope s_both_masks, [], []⟩) rfl
  have g_both_masks := He.glo_ok X G (c.fact 8 (f := .glo "both_masks") rfl)
  have b_both_masks : Binds K fd_both_masks P_both_masks [] := F_both_masks.bindsN fun _ _ _ _ _ _ us hl => match us, hl with | [_, _], _ => rfl
  obtain ⟨fd_either_mask, F_either_mask⟩ := c.def_ 9 (d := ⟨("either_mask", none), "either_mask", "either_mask", defArgs s_either_mask, defBody s_either_mask, defScope s_either_mask, [], []⟩) rfl
  have g_either_mask := He.glo_ok X G (c.fact 9 (f := .glo "either_mask") rfl)
  have b_either_mask : Binds K fd_either_mask P_either_mask [] := F_either_mask.bindsN fun _ _ _ _ _ _ us hl => match us, hl with | [_, _], _ => rfl
  obtain ⟨fd_one_mask, F_one_mask⟩ := c.def_ 10 (d := ⟨("one_mask", none), "one_mask", "one_mask", defArgs s_one_mask, defBody s_one_mask, defScope s_one_mask, [], []⟩) rfl
  have g_one_mask := He.glo_ok X G (c.fact 10 (f := .glo "one_mask") rfl)
  have b_one_mask : Binds K fd_one_mask P_one_mask [] := F_one_mask.bindsN fun _ _ _ _ _ _ us hl => match us, hl with | [_, _], _ => rfl
  obtain ⟨fd_less_mask, F_less_mask⟩ := c.def_ 11 (d := ⟨("less_mask", none), "less_mask", "less_mask", defArgs s_less_mask, defBody s_less_mask, defScope s_less_mask, [], []⟩) rfl
  have g_less_mask := He.glo_ok X G (c.fact 11 (f := .glo "less_mask") rfl)
  have b_less_mask : Binds K fd_less_mask P_less_mask [] := F_less_mask.bindsN fun _ _ _ _ _ _ us hl => match us, hl with | [_, _], _ => rfl
  obtain ⟨fd_other_mask, F_other_mask⟩ := c.def_ 12 (d := ⟨("other_mask", none), "other_mask", "other_mask", defArgs s_other_mask, defBody s_other_mask, defScope s_other_mask, [], []⟩) rfl
  have g_other_mask := He.glo_ok X G (c.fact 12 (f := .glo "other_mask") rfl)
  have b_other_mask : Binds K fd_other_mask P_other_mask [] := F_other_mask.bindsN fun _ _ _ _ _ _ us hl => match us, hl with | [_], _ => rfl
  obtain ⟨fd_many_in_mask, F_many_in_mask⟩ := c.def_ 13 (d := ⟨("many_in_mask", none), "many_in_mask", "many_in_mask", defArgs s_many_in_mask, defBody s_many_in_mask, defScope s_many_in_mask, [], []⟩) rfl
  have g_many_in_mask := He.glo_ok X G (c.fact 13 (f := .glo "many_in_mask") rfl)
  have b_many_in_mask : Binds K fd_many_in_mask P_many_in_mask [] := F_many_in_mask.bindsN fun _ _ _ _ _ _ us hl => match us, hl with | [_], _ => rfl
  obtain ⟨fd_cells_in_mask, F_cells_in_mask⟩ := c.def_ 14 (d := ⟨("cells_in_mask", none), "cells_in_mask", "cells_in_mask", defArgs s_cells_in_mask, defBody s_cells_in_mask, defScope s_cells_in_mask, [], []⟩) rfl
  have g_cells_in_mask := He.glo_ok X G (c.fact 14 (f := .glo "cells_in_mask") rfl)
  have b_cells_in_mask : Binds K fd_cells_in_mask P_cells_in_mask [] := F_cells_in_mask.bindsN fun _ _ _ _ _ _ us hl => match us, hl with | [_], _ => rfl
  obtain ⟨fd_law_cell, F_law_cell⟩ := c.def_ 15 (d := ⟨("_law_cell", none), "_law_cell", "_law_cell", defArgs s_law_cell, defBody s_law_cell, defScope s_law_cell, [], []⟩) rfl
  have g_law_cell := He.glo_ok X G (c.fact 15 (f := .glo "_law_cell") rfl)
  have b_law_cell : Binds K fd_law_cell P_law_cell [] := F_law_cell.bindsN fun _ _ _ _ _ _ us hl => match us, hl with | [_, _], _ => rfl
  obtain ⟨fd_law_mixed, F_law_mixed⟩ := c.def_ 16 (d := ⟨("_law_mixed", none), "_law_mixed", "_law_mixed", defArgs s_law_mixed, defBody s_law_mixed, defScope s_law_mixed, [], []⟩) rfl
  have g_law_mixed := He.glo_ok X G (c.fact 16 (f := .glo "_law_mixed") rfl)
  have b_law_mixed : Binds K fd_law_mixed P_law_mixed [] := F_law_mixed.bindsN fun _ _ _ _ _ _ us hl => match us, hl with | [_, _], _ => rfl
  obtain ⟨fd_law_whole, F_law_whole⟩ := c.def_ 17 (d := ⟨("_law_whole", none), "_law_whole", "_law_whole", defArgs s_law_whole, defBody s_law_whole, defScope s_law_whole, [], []⟩) rfl
  have g_law_whole := He.glo_ok X G (c.fact 17 (f := .glo "_law_whole") rfl)
  have b_law_whole : Binds K fd_law_whole P_law_whole [] := F_law_whole.bindsN fun _ _ _ _ _ _ us hl => match us, hl with | [_], _ => rfl
  obtain ⟨fd_law_power, F_law_power⟩ := c.def_ 18 (d := ⟨("_law_power", none), "_law_power", "_law_power", defArgs s_law_power, defBody s_law_power, defScope s_law_power, [], []⟩) rfl
  have g_law_power := He.glo_ok X G (c.fact 18 (f := .glo "_law_power") rfl)
  have b_law_power : Binds K fd_law_power P_law_power [] := F_law_power.bindsN fun _ _ _ _ _ _ us hl => match us, hl with | [_], _ => rfl
  obtain ⟨fd_law_mask, F_law_mask⟩ := c.def_ 19 (d := ⟨("_law_mask", none), "_law_mask", "_law_mask", defArgs s_law_mask, defBody s_law_mask, defScope s_law_mask, [], []⟩) rfl
  have g_law_mask := He.glo_ok X G (c.fact 19 (f := .glo "_law_mask") rfl)
  have b_law_mask : Binds K fd_law_mask P_law_mask [] := F_law_mask.bindsN fun _ _ _ _ _ _ us hl => match us, hl with | [_, _, _, _], _ => rfl
  obtain ⟨fd_law_places, F_law_places⟩ := c.def_ 20 (d := ⟨("_law_places", none), "_law_places", "_law_places", defArgs s_law_places, defBody s_law_places, defScope s_law_places, [], []⟩) rfl
  have g_law_places := He.glo_ok X G (c.fact 20 (f := .glo "_law_places") rfl)
  have b_law_places : Binds K fd_law_places P_law_places [] := F_law_places.bindsN fun _ _ _ _ _ _ us hl => match us, hl with | [_], _ => rfl
  obtain ⟨fd_law_mask_by, F_law_mask_by⟩ := c.def_ 21 (d := ⟨("_law_mask_by", none), "_law_mask_by", "_law_mask_by", defArgs s_law_mask_by, defBody s_law_mask_by, defScope s_law_mask_by, [], []⟩) rfl
  have g_law_mask_by := He.glo_ok X G (c.fact 21 (f := .glo "_law_mask_by") rfl)
  have b_law_mask_by : Binds K fd_law_mask_by P_law_mask_by [] := F_law_mask_by.bindsN fun _ _ _ _ _ _ us hl => match us, hl with | [_, _, _], _ => rfl
  obtain ⟨fd_law_same_mask, F_law_same_mask⟩ := c.def_ 22 (d := ⟨("_law_same_mask", none), "_law_same_mask", "_law_same_mask", defArgs s_law_same_mask, defBody s_law_same_mask, defScope s_law_same_mask, [], []⟩) rfl
  have g_law_same_mask := He.glo_ok X G (c.fact 22 (f := .glo "_law_same_mask") rfl)
  have b_law_same_mask : Binds K fd_law_same_mask P_law_same_mask [] := F_law_same_mask.bindsN fun _ _ _ _ _ _ us hl => match us, hl with | [_, _], _ => rfl
  obtain ⟨fd_law_class, F_law_class⟩ := c.def_ 23 (d := ⟨("_law_class", none), "_law_class", "_law_class", defArgs s_law_class, defBody s_law_class, defScope s_law_class, [], []⟩) rfl
  have g_law_class := He.glo_ok X G (c.fact 23 (f := .glo "_law_class") rfl)
  have b_law_class : Binds K fd_law_class P_law_class [] := F_law_class.bindsN fun _ _ _ _ _ _ us hl => match us, hl with | [_], _ => rfl
  obtain ⟨fd_law_wrong_mask, F_law_wrong_mask⟩ := c.def_ 24 (d := ⟨("_law_wrong_mask", none), "_law_wrong_mask", "_law_wrong_mask", defArgs s_law_wrong_mask, defBody s_law_wrong_mask, defScope s_law_wrong_mask, [], []⟩) rfl
  have g_law_wrong_mask := He.glo_ok X G (c.fact 24 (f := .glo "_law_wrong_mask") rfl)
  have b_law_wrong_mask : Binds K fd_law_wrong_mask P_law_wrong_mask [] := F_law_wrong_mask.bindsN fun _ _ _ _ _ _ us hl => match us, hl with | [_, _], _ => rfl
  obtain ⟨fd_law_asked, F_law_asked⟩ := c.def_ 25 (d := ⟨("_law_asked", none), "_law_asked", "_law_asked", defArgs s_law_asked, defBody s_law_asked, defScope s_law_asked, [], []⟩) rfl
  have g_law_asked := He.glo_ok X G (c.fact 25 (f := .glo "_law_asked") rfl)
  have b_law_asked : Binds K fd_law_asked P_law_asked [] := F_law_asked.bindsN fun _ _ _ _ _ _ us hl => match us, hl with | [_, _, _], _ => rfl
  obtain ⟨fd_law_word, F_law_word⟩ := c.def_ 26 (d := ⟨("_law_word", none), "_law_word", "_law_word", defArgs s_law_word, defBody s_law_word, defScope s_law_word, [], []⟩) rfl
  have g_law_word := He.glo_ok X G (c.fact 26 (f := .glo "_law_word") rfl)
  have b_law_word : Binds K fd_law_word P_law_word [] := F_law_word.bindsN fun _ _ _ _ _ _ us hl => match us, hl with | [_, _, _], _ => rfl
  obtain ⟨fd_law_full_word, F_law_full_word⟩ := c.def_ 27 (d := ⟨("_law_full_word", none), "_law_full_word", "_law_full_word", defArgs s_law_full_word, defBody s_law_full_word, defScope s_law_full_word, [], []⟩) rfl
  have g_law_full_word := He.glo_ok X G (c.fact 27 (f := .glo "_law_full_word") rfl)
  have b_law_full_word : Binds K fd_law_full_word P_law_full_word [] := F_law_full_word.bindsN fun _ _ _ _ _ _ us hl => match us, hl with | [_, _], _ => rfl
  obtain ⟨fd_law_due, F_law_due⟩ := c.def_ 28 (d := ⟨("_law_due", none), "_law_due", "_law_due", defArgs s_law_due, defBody s_law_due, defScope s_law_due, [], []⟩) rfl
  have g_law_due := He.glo_ok X G (c.fact 28 (f := .glo "_law_due") rfl)
  have b_law_due : Binds K fd_law_due P_law_due [] := F_law_due.bindsN fun _ _ _ _ _ _ us hl => match us, hl with | [_, _, _], _ => rfl
  obtain ⟨fd_law_size, F_law_size⟩ := c.def_ 29 (d := ⟨("_law_size", none), "_law_size", "_law_size", defArgs s_law_size, defBody s_law_size, defScope s_law_size, [], []⟩) rfl
  have g_law_size := He.glo_ok X G (c.fact 29 (f := .glo "_law_size") rfl)
  have b_law_size : Binds K fd_law_size P_law_size [] := F_law_size.bindsN fun _ _ _ _ _ _ us hl => match us, hl with | [_], _ => rfl
  obtain ⟨fd_law_alone_right, F_law_alone_right⟩ := c.def_ 30 (d := ⟨("_law_alone_right", none), "_law_alone_right", "_law_alone_right", defArgs s_law_alone_right, defBody s_law_alone_right, defScope s_law_alone_right, [], []⟩) rfl
  have g_law_alone_right := He.glo_ok X G (c.fact 30 (f := .glo "_law_alone_right") rfl)
  have b_law_alone_right : Binds K fd_law_alone_right P_law_alone_right [] := F_law_alone_right.bindsN fun _ _ _ _ _ _ us hl => match us, hl with | [_], _ => rfl
  obtain ⟨fd_law, F_law⟩ := c.def_ 31 (d := ⟨("law", none), "law", "law", defArgs s_law, defBody s_law, defScope s_law, [], []⟩) rfl
  have e := hfa.symm.trans (He.glo_ok X G (c.fact 31 (f := .glo "law") rfl))
  cases e
  have b := FunD.bindsA (ps := P_law) F_law fun _ _ _ _ _ _ us hl => match us, hl with | [_], _ => rfl
  refine ⟨fd_law, fun s v => b s [v] rfl, fun base _ _ => ?_⟩
  have O_bit_at := ok_bit_at (P := P) (w := w) (base := base) F_bit_at T
  have C_bit_at : Callable P w K mg base (caN names K) 1 "bit_at" P_bit_at [] m_bit_at := callable_mk g_bit_at F_bit_at.kp b_bit_at O_bit_at
  have O_many_bits := ok_many_bits (P := P) (w := w) (base := base) F_many_bits T
  have C_many_bits : Callable P w K mg base (caN names K) 1 "many_bits" P_many_bits [] m_many_bits := callable_mk g_many_bits F_many_bits.kp b_many_bits O_many_bits
  have O_places_of_bits := ok_places_of_bits (P := P) (w := w) (base := base) F_places_of_bits T C_bit_at
  have C_places_of_bits : Callable P w K mg base (caN names K) 2 "places_of_bits" P_places_of_bits [] m_places_of_bits := callable_mk g_places_of_bits F_places_of_bits.kp b_places_of_bits O_places_of_bits
  have O_is_among := ok_is_among (P := P) (w := w) (base := base) F_is_among T
  have C_is_among : Callable P w K mg base (caN names K) 1 "is_among" P_is_among [] m_is_among := callable_mk g_is_among F_is_among.kp b_is_among O_is_among
  have O_need_sides := ok_need_sides (P := P) (w := w) (base := base) F_need_sides T C_is_among
  have C_need_sides : Callable P w K mg base (caN names K) 2 "need_sides" P_need_sides [] m_need_sides := callable_mk g_need_sides F_need_sides.kp b_need_sides O_need_sides
  have O_is_mask := ok_is_mask (P := P) (w := w) (base := base) F_is_mask T C_is_among
  have C_is_mask : Callable P w K mg base (caN names K) 2 "is_mask" P_is_mask [] m_is_mask := callable_mk g_is_mask F_is_mask.kp b_is_mask O_is_mask
  have O_need_masks := ok_need_masks (P := P) (w := w) (base := base) F_need_masks T C_is_mask
  have C_need_masks : Callable P w K mg base (caN names K) 3 "need_masks" P_need_masks [] m_need_masks := callable_mk g_need_masks F_need_masks.kp b_need_masks O_need_masks
  have O_full_mask := ok_full_mask (P := P) (w := w) (base := base) F_full_mask T C_need_sides
  have C_full_mask : Callable P w K mg base (caN names K) 3 "full_mask" P_full_mask [] m_full_mask := callable_mk g_full_mask F_full_mask.kp b_full_mask O_full_mask
  have O_both_masks := ok_both_masks (P := P) (w := w) (base := base) F_both_masks T C_need_masks
  have C_both_masks : Callable P w K mg base (caN names K) 4 "both_masks" P_both_masks [] m_both_masks := callable_mk g_both_masks F_both_masks.kp b_both_masks O_both_masks
  have O_either_mask := ok_either_mask (P := P) (w := w) (base := base) F_either_mask T C_need_masks
  have C_either_mask : Callable P w K mg base (caN names K) 4 "either_mask" P_either_mask [] m_either_mask := callable_mk g_either_mask F_either_mask.kp b_either_mask O_either_mask
  have O_one_mask := ok_one_mask (P := P) (w := w) (base := base) F_one_mask T C_need_masks
  have C_one_mask : Callable P w K mg base (caN names K) 4 "one_mask" P_one_mask [] m_one_mask := callable_mk g_one_mask F_one_mask.kp b_one_mask O_one_mask
  have O_less_mask := ok_less_mask (P := P) (w := w) (base := base) F_less_mask T C_need_masks
  have C_less_mask : Callable P w K mg base (caN names K) 4 "less_mask" P_less_mask [] m_less_mask := callable_mk g_less_mask F_less_mask.kp b_less_mask O_less_mask
  have O_other_mask := ok_other_mask (P := P) (w := w) (base := base) F_other_mask T C_full_mask C_need_masks C_one_mask
  have C_other_mask : Callable P w K mg base (caN names K) 5 "other_mask" P_other_mask [] m_other_mask := callable_mk g_other_mask F_other_mask.kp b_other_mask O_other_mask
  have O_many_in_mask := ok_many_in_mask (P := P) (w := w) (base := base) F_many_in_mask T C_many_bits C_need_masks
  have C_many_in_mask : Callable P w K mg base (caN names K) 4 "many_in_mask" P_many_in_mask [] m_many_in_mask := callable_mk g_many_in_mask F_many_in_mask.kp b_many_in_mask O_many_in_mask
  have O_cells_in_mask := ok_cells_in_mask (P := P) (w := w) (base := base) F_cells_in_mask T C_need_masks C_places_of_bits
  have C_cells_in_mask : Callable P w K mg base (caN names K) 4 "cells_in_mask" P_cells_in_mask [] m_cells_in_mask := callable_mk g_cells_in_mask F_cells_in_mask.kp b_cells_in_mask O_cells_in_mask
  have O_law_cell := ok_law_cell (P := P) (w := w) (base := base) F_law_cell T
  have C_law_cell : Callable P w K mg base (caN names K) 1 "_law_cell" P_law_cell [] m_law_cell := callable_mk g_law_cell F_law_cell.kp b_law_cell O_law_cell
  have O_law_mixed := ok_law_mixed (P := P) (w := w) (base := base) F_law_mixed T C_law_cell
  have C_law_mixed : Callable P w K mg base (caN names K) 2 "_law_mixed" P_law_mixed [] m_law_mixed := callable_mk g_law_mixed F_law_mixed.kp b_law_mixed O_law_mixed
  have O_law_whole := ok_law_whole (P := P) (w := w) (base := base) F_law_whole T
  have C_law_whole : Callable P w K mg base (caN names K) 1 "_law_whole" P_law_whole [] m_law_whole := callable_mk g_law_whole F_law_whole.kp b_law_whole O_law_whole
  have O_law_power := ok_law_power (P := P) (w := w) (base := base) F_law_power T
  have C_law_power : Callable P w K mg base (caN names K) 1 "_law_power" P_law_power [] m_law_power := callable_mk g_law_power F_law_power.kp b_law_power O_law_power
  have O_law_mask := ok_law_mask (P := P) (w := w) (base := base) F_law_mask T C_law_mixed C_law_power
  have C_law_mask : Callable P w K mg base (caN names K) 3 "_law_mask" P_law_mask [] m_law_mask := callable_mk g_law_mask F_law_mask.kp b_law_mask O_law_mask
  have O_law_places := ok_law_places (P := P) (w := w) (base := base) F_law_places T
  have C_law_places : Callable P w K mg base (caN names K) 1 "_law_places" P_law_places [] m_law_places := callable_mk g_law_places F_law_places.kp b_law_places O_law_places
  have O_law_mask_by := ok_law_mask_by (P := P) (w := w) (base := base) F_law_mask_by T C_law_power
  have C_law_mask_by : Callable P w K mg base (caN names K) 2 "_law_mask_by" P_law_mask_by [] m_law_mask_by := callable_mk g_law_mask_by F_law_mask_by.kp b_law_mask_by O_law_mask_by
  have O_law_same_mask := ok_law_same_mask (P := P) (w := w) (base := base) F_law_same_mask T C_law_whole
  have C_law_same_mask : Callable P w K mg base (caN names K) 2 "_law_same_mask" P_law_same_mask [] m_law_same_mask := callable_mk g_law_same_mask F_law_same_mask.kp b_law_same_mask O_law_same_mask
  have O_law_class := ok_law_class (P := P) (w := w) (base := base) F_law_class T
  have C_law_class : CallX P w K mg base (caN names K) 1 "_law_class" P_law_class m_law_class := callX_mk g_law_class F_law_class.kp b_law_class O_law_class
  have O_law_wrong_mask := ok_law_wrong_mask (P := P) (w := w) (base := base) F_law_wrong_mask T C_law_power
  have C_law_wrong_mask : Callable P w K mg base (caN names K) 2 "_law_wrong_mask" P_law_wrong_mask [] m_law_wrong_mask := callable_mk g_law_wrong_mask F_law_wrong_mask.kp b_law_wrong_mask O_law_wrong_mask
  have O_law_asked := ok_law_asked (P := P) (w := w) (base := base) F_law_asked T C_both_masks C_cells_in_mask C_either_mask C_less_mask C_many_in_mask C_one_mask C_other_mask
  have C_law_asked : Callable P w K mg base (caN names K) 6 "_law_asked" P_law_asked [] m_law_asked := callable_mk g_law_asked F_law_asked.kp b_law_asked O_law_asked
  have O_law_word := ok_law_word (P := P) (w := w) (base := base) F_law_word T C_law_asked C_law_class
  have C_law_word : Callable P w K mg base (caN names K) 7 "_law_word" P_law_word [] m_law_word := callable_mk g_law_word F_law_word.kp b_law_word O_law_word
  have O_law_full_word := ok_law_full_word (P := P) (w := w) (base := base) F_law_full_word T C_law_class C_full_mask
  have C_law_full_word : Callable P w K mg base (caN names K) 4 "_law_full_word" P_law_full_word [] m_law_full_word := callable_mk g_law_full_word F_law_full_word.kp b_law_full_word O_law_full_word
  have O_law_due := ok_law_due (P := P) (w := w) (base := base) F_law_due T
  have C_law_due : Callable P w K mg base (caN names K) 1 "_law_due" P_law_due [] m_law_due := callable_mk g_law_due F_law_due.kp b_law_due O_law_due
  have O_law_size := ok_law_size (P := P) (w := w) (base := base) F_law_size T
  have C_law_size : Callable P w K mg base (caN names K) 1 "_law_size" P_law_size [] m_law_size := callable_mk g_law_size F_law_size.kp b_law_size O_law_size
  have O_law_alone_right := ok_law_alone_right (P := P) (w := w) (base := base) F_law_alone_right T C_law_mask_by C_law_places C_law_power C_law_same_mask C_law_whole C_cells_in_mask C_full_mask C_is_mask C_many_in_mask C_other_mask
  have C_law_alone_right : Callable P w K mg base (caN names K) 6 "_law_alone_right" P_law_alone_right [] m_law_alone_right := callable_mk g_law_alone_right F_law_alone_right.kp b_law_alone_right O_law_alone_right
  exact ok_law F_law T C_law_alone_right C_law_asked C_law_due C_law_full_word C_law_mask C_law_mask_by C_law_mixed C_law_places C_law_same_mask C_law_size C_law_word C_law_wrong_mask C_is_mask
end Lk06
namespace Lk06
open PySem PySem.Spec PyProof.Rows L2 Sy
def loose0 : List PySem.Str := ["bit_at", "many_bits", "places_of_bits", "FolioError", "BadPicture", "BadCell", "BadSize", "OutOfPlace", "BadMask", "BadRule", "BadEdge", "MOST_SIDE", "is_among", "need_sides", "is_mask", "need_masks", "full_mask", "both_masks", "either_mask", "one_mask", "less_mask", "other_mask", "many_in_mask", "cells_in_mask", "_law_cell", "_law_mixed", "_law_whole", "_law_power", "_law_mask", "_law_places"]
def loose1 : List PySem.Str := ["_law_mask_by", "_law_same_mask", "_law_class", "_law_wrong_mask", "_law_asked", "_law_word", "_law_full_word", "_law_due", "_law_size", "_law_alone_right"]
def loose : List PySem.Str := loose0 ++ loose1
abbrev R : PySem.W.OpenRow := PySem.W.OpenLaw.row PySem.Challenge.rw_cellfolio_k06_masks_by_places
abbrev hk : PySem.W.Hook := hookX 4 fa fn fb
noncomputable def ob (s : PySem.W.SharedT) : AlX := obsXG 4 fa fn fb (HandSHeadRun.getT s)
theorem ob_eq (s : PySem.W.SharedT) : ob s = hk.obs s.abs := obsXG_eq (HandSHeadRun.getT_eq s)
set_option maxHeartbeats 0 in
theorem run (w : World) : HandSHeadRun.RunEq R (PySem.W.view R.prog [45]) hk ob 40000 loose w := by
  intro os
  kernel_rfl
end Lk06
open PySem PySem.W PySem.Calls PyProof.Rows
set_option maxHeartbeats 0 in
theorem PySem.Challenge.cw_cellfolio_k06_masks_by_places_holds : PySem.Challenge.rw_cellfolio_k06_masks_by_places.Holds := by
  w_on; o_law
  refine HandSHeadRun.head_any (r := OpenLaw.row PySem.Challenge.rw_cellfolio_k06_masks_by_places) (q := view (OpenLaw.row PySem.Challenge.rw_cellfolio_k06_masks_by_places).prog [45]) (H := Lk06.hk) (ob := Lk06.ob) (M := 40000) (loose := Lk06.loose) (d := HandSHeadRun.topDef (OpenLaw.row PySem.Challenge.rw_cellfolio_k06_masks_by_places).prog 45) (kwd := []) Lk06.ob_eq
    (by kernel_rfl) (fun s => by kernel_rfl) Lk06.run (by kernel_rfl) (by kernel_rfl) (by kernel_rfl) (by rfl) (by first | assumption | decide +kernel) (by decide +kernel) ⟨rfl, rfl, rfl, rfl, rfl, by decide +kernel⟩ ?hw ?hc
  case hw => w_witness2
  case hc =>
    refine Sy.law_endX (l := PySem.Challenge.rw_cellfolio_k06_masks_by_places) (k := 8) (x := "_law_script") (ca := Sy.caN Lk06.names) (m := Lk06.m_law) rfl (by kernel_rfl) ⟨rfl, by decide, by decide⟩ ?F Lk06.law_ok
    intro w mg fv h K KX c cb G hmg0
    have hmg : mg ("law" : PySem.Str) = some (.ref fv) := by
      have e : (HandSHeadRun.topDef (OpenLaw.row PySem.Challenge.rw_cellfolio_k06_masks_by_places).prog 45).name = ("law" : PySem.Str) := by kernel_rfl
      rw [← e]
      exact hmg0
    exact Lk06.facts KX G hmg c cb
